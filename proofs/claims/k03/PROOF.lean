import PyProof.Rows.All
import Wide.All
import OpenK.AllK
import Wide.FinOn
import HandS.ForMost
import HandS.ForExc
import HandS.TryMany
import HandS.ExcInit
import HandS.ExcIs
import HandS.ExcField
import HandS.RaiseMore
import HandS.Wide
import HandS.IsInst
import HandS.Defaults
import HandS.EndBits
import HandS.Head2
import HandS.HeadEnd
import HandS.HeadHook2
import HandS.HeadWalk
import HandS.Conv
import HandS.TryOnly
import HandS.Finally
import PySem.Challenge.RW_gainstream_k03_sums_products_and_order
set_option Elab.async false
set_option linter.all false
set_option maxRecDepth 100000
set_option maxHeartbeats 0
set_option autoImplicit false
namespace GS
open PySem PySem.Spec PyProof.Rows L2

/-! ## data as trees -/
inductive Md where
  | own | fz | br | vw
  deriving DecidableEq

inductive D where
  | non | bl (b : Bool) | int (i : Int) | str (x : Str)
  | tup (m : Md) (ds : List D)
  | lst (m : Md) (ds : List D)
  | dic (m : Md) (ks : List Key) (ds : List D)
  | ins (m : Md) (c : Nat) (fs : List Nat) (ds : List D)

def D.md : D → Md
  | .tup m _ => m
  | .lst m _ => m
  | .dic m _ _ => m
  | .ins m _ _ _ => m
  | _ => .fz

/-- may a node of mode m have a child of mode x -/
def chOk : Md → Md → Bool
  | .own, .own => true
  | .own, .fz => true
  | .fz, .fz => true
  | .br, .br => true
  | .br, .fz => true
  | .vw, .vw => true
  | .vw, .fz => true
  | .vw, .br => true
  | _, _ => false

mutual
/-- own nodes turned to mode n (n: vw, fz) -/
def D.own2 (n : Md) : D → D
  | .tup .own ds => .tup n (D.own2s n ds)
  | .lst .own ds => .lst n (D.own2s n ds)
  | .dic .own ks ds => .dic n ks (D.own2s n ds)
  | .ins .own c fs ds => .ins n c fs (D.own2s n ds)
  | d => d
def D.own2s (n : Md) : List D → List D
  | [] => []
  | d :: ds => D.own2 n d :: D.own2s n ds
end
mutual
/-- seen nodes turned to borrowed ones -/
def D.brd : D → D
  | .tup .vw ds => .tup .br (D.brds ds)
  | .lst .vw ds => .lst .br (D.brds ds)
  | .dic .vw ks ds => .dic .br ks (D.brds ds)
  | .ins .vw c fs ds => .ins .br c fs (D.brds ds)
  | d => d
def D.brds : List D → List D
  | [] => []
  | d :: ds => D.brd d :: D.brds ds
end
theorem own2s_map (n : Md) : ∀ ds, D.own2s n ds = ds.map (D.own2 n)
  | [] => rfl
  | d :: ds => by show D.own2 n d :: D.own2s n ds = _; rw [own2s_map n ds]; rfl
theorem brds_map : ∀ ds, D.brds ds = ds.map D.brd
  | [] => rfl
  | d :: ds => by show D.brd d :: D.brds ds = _; rw [brds_map ds]; rfl
theorem own2_id {n : Md} {d : D} (h : d.md ≠ .own) : d.own2 n = d := by
  cases d with
  | tup m ds => cases m <;> first | exact absurd rfl h | rfl
  | lst m ds => cases m <;> first | exact absurd rfl h | rfl
  | dic m ks ds => cases m <;> first | exact absurd rfl h | rfl
  | ins m c fs ds => cases m <;> first | exact absurd rfl h | rfl
  | _ => rfl
theorem brd_id {d : D} (h : d.md ≠ .vw) : d.brd = d := by
  cases d with
  | tup m ds => cases m <;> first | exact absurd rfl h | rfl
  | lst m ds => cases m <;> first | exact absurd rfl h | rfl
  | dic m ks ds => cases m <;> first | exact absurd rfl h | rfl
  | ins m c fs ds => cases m <;> first | exact absurd rfl h | rfl
  | _ => rfl
theorem own2_md {n : Md} {d : D} : (d.own2 n).md = if d.md = .own then n else d.md := by
  cases d with
  | tup m ds => cases m <;> rfl
  | lst m ds => cases m <;> rfl
  | dic m ks ds => cases m <;> rfl
  | ins m c fs ds => cases m <;> rfl
  | _ => rfl
theorem brd_md {d : D} : d.brd.md = if d.md = .vw then .br else d.md := by
  cases d with
  | tup m ds => cases m <;> rfl
  | lst m ds => cases m <;> rfl
  | dic m ks ds => cases m <;> rfl
  | ins m c fs ds => cases m <;> rfl
  | _ => rfl
/-- an argument as the callee sees it -/
def D.arg (d : D) : D := match d.md with
  | .own => d.own2 .fz
  | .vw => d.brd
  | _ => d
/-- may be kept (stored, returned) -/
def D.cl (d : D) : Bool := match d.md with
  | .own => true
  | .fz => true
  | _ => false

/-! ## what a tree is in the abstract heap -/
abbrev MM := Addr → Option Md
/-- the static names: attributes, classes -/
structure RC where
  K : PySem.W.Frag
  an : Nat → Str
  ca : Nat → Addr
  /-- the classes of exceptions -/
  xc : Nat → Bool
/-- what stands at a, for a node of mode m -/
def MA (M : MM) (a : Addr) : Md → Prop
  | .own => M a = some .own
  | .fz => M a = some .fz
  | .br => M a = some .br ∨ M a = some .fz
  | .vw => M a = some .own ∨ M a = some .br ∨ M a = some .fz
theorem MA.ne_none {M : MM} {a : Addr} {m : Md} (h : MA M a m) : M a ≠ none := by
  cases m with
  | own => rw [show M a = _ from h]; simp
  | fz => rw [show M a = _ from h]; simp
  | br => rcases h with h | h <;> (rw [h]; simp)
  | vw => rcases h with h | h | h <;> (rw [h]; simp)
theorem MA.eq {M M' : MM} {a : Addr} {m : Md} (h : MA M a m) (e : M' a = M a) : MA M' a m := by
  cases m <;> (unfold MA at *; rw [e]; exact h)
theorem MA.br {M : MM} {a : Addr} {m : Md} (h : MA M a m) (e : M a = Option.some .br) : m = .br ∨ m = .vw := by
  cases m with
  | br => exact .inl rfl
  | vw => exact .inr rfl
  | fz => rw [show M a = _ from h] at e; cases e
  | own => rw [show M a = _ from h] at e; cases e
theorem MA.own {M : MM} {a : Addr} {m : Md} (h : MA M a m) (e : M a = some .own) : m = .own ∨ m = .vw := by
  cases m with
  | own => exact .inl rfl
  | vw => exact .inr rfl
  | fz => rw [show M a = _ from h] at e; cases e
  | br => rcases h with h | h <;> (rw [h] at e; cases e)
def Nd (M : MM) (H : Hp) (m : Md) (a : Addr) (u : HO) : Prop := MA M a m ∧ Rd H a u ∧ (m = .own → H a = some u)
/-- a list, a tuple of the module -/
def KL (K : PySem.W.Frag) (T : String) (a : Addr) (xs : List V) : Prop := ∃ (o : Obj) (its : Array Value) (n : Nat), K.lookup a = some o ∧ o.cls = .type T ∧ (T = "list" → o.dict = none) ∧ o.data = .seq its n ∧ its.size ≤ sizeLine ∧ Vals xs its.toList
/-- a node that is no dict -/
def NdX (M : MM) (H : Hp) (m : Md) (a : Addr) (u : HO) : Prop := MA M a m ∧ H a = some u
/-- a caught exception's object -/
def exR (cls : Value) (d : Option Addr) (a : Addr) : HO := .ext fun h => ∃ (oe : Obj) (vs : Array Value), h.get? a = some oe ∧ Zc cls d oe ∧ oe.data = .fields vs
/-- an instance's node: a plain one, or a caught exception with its dict -/
def NdI (c : RC) (M : MM) (H : Hp) (m : Md) (k : Nat) (a dx : Addr) (fvs : List (Str × V)) : Prop :=
  (c.xc k = false ∧ NdX M H m a (.ins (c.ca k) dx fvs)) ∨ (c.xc k = true ∧ m = .fz ∧ ((fvs = [] ∧ NdX M H .fz a (exR (.ref (c.ca k)) none a)) ∨ (NdX M H .fz a (exR (.ref (c.ca k)) (some dx) a) ∧ NdX M H .fz dx (.xd fvs))))
theorem NdI.plain {c : RC} {M : MM} {H : Hp} {m : Md} {k : Nat} {a dx : Addr} {fvs : List (Str × V)} (h : NdI c M H m k a dx fvs) (hm : m ≠ .fz ∨ c.xc k = false) : c.xc k = false ∧ NdX M H m a (.ins (c.ca k) dx fvs) := by
  rcases h with h | ⟨h1, h2, _⟩
  · exact h
  · rcases hm with z | z
    · exact absurd h2 z
    · rw [z] at h1; cases h1
/-- a list that was given: of the module, or locked (the script) -/
def GL (K : PySem.W.Frag) (M : MM) (H : Hp) (a : Addr) (xs : List V) : Prop := KL K "list" a xs ∨ (M a = some .br ∧ ∃ o, H a = some (.frz o (.lst xs)))
def consO (m : Md) (a : Addr) (l : List Addr) : List Addr := match m with
  | .own => a :: l
  | _ => l
mutual
def Rep (c : RC) (M : MM) (H : Hp) : D → V → List Addr → Prop
  | .non, v, l => v = .non ∧ l = []
  | .bl b, v, l => v = .bl b ∧ l = []
  | .int i, v, l => v = .int i ∧ l = []
  | .str x, v, l => v = .str x ∧ l = []
  | .tup m ds, v, l => ∃ a vs l', v = .ref a ∧ (NdX M H m a (.tup vs) ∨ (m = .br ∧ KL c.K "tuple" a vs)) ∧ Reps c M H m ds vs l' ∧ l = consO m a l'
  | .lst m ds, v, l => ∃ a vs l', v = .ref a ∧ (NdX M H m a (.lst vs) ∨ (m = .br ∧ GL c.K M H a vs)) ∧ Reps c M H m ds vs l' ∧ l = consO m a l'
  | .dic m ks ds, v, l => ∃ a kvs l', v = .ref a ∧ Nd M H m a (.dK kvs) ∧ kvs.map (·.1) = ks ∧ Reps c M H m ds (kvs.map (·.2)) l' ∧ l = consO m a l'
  | .ins m k fs ds, v, l => ∃ a dx fvs l', v = .ref a ∧ NdI c M H m k a dx fvs ∧ fvs.map (·.1) = fs.map c.an ∧ Reps c M H m ds (fvs.map (·.2)) l' ∧ l = consO m a l'
def Reps (c : RC) (M : MM) (H : Hp) (p : Md) : List D → List V → List Addr → Prop
  | [], vs, l => vs = [] ∧ l = []
  | d :: ds, vs, l => ∃ v vs' l1 l2, vs = v :: vs' ∧ chOk p d.md = true ∧ Rep c M H d v l1 ∧ Reps c M H p ds vs' l2 ∧ l = l1 ++ l2
end

section
variable {c : RC} {M M' : MM} {H H' : Hp}
theorem mem_consO {m : Md} {a b : Addr} {l : List Addr} : b ∈ consO m a l ↔ (m = .own ∧ b = a) ∨ b ∈ l := by
  cases m <;> simp [consO]
theorem chOk_vw {p x : Md} (h : chOk p x = true) (e : x = .vw) : p = .vw := by
  subst e; cases p <;> simp [chOk] at h ⊢
theorem chOk_own {p x : Md} (h : chOk p x = true) (e : x = .own) : p = .own := by
  subst e; cases p <;> simp [chOk] at h ⊢

theorem chOk_br {p x : Md} (h : chOk p x = true) (e : x = .br) : p = .br ∨ p = .vw := by
  subst e; cases p <;> simp [chOk] at h ⊢
/-- what a tree leans on -/
def Keep1 (H H' : Hp) (a : Addr) : Prop := H' a = H a ∨ ∃ kvs, Rd H a (.dK kvs) ∧ Rd H' a (.dK kvs)
theorem rd_uniq {a : Addr} {x y : List (Key × V)} (h1 : Rd H a (.dK x)) (h2 : Rd H a (.dK y)) : x = y := by
  rcases h1 with h1 | ⟨o, h1⟩ <;> rcases h2 with h2 | ⟨o', h2⟩ <;> rw [h1] at h2 <;> cases h2 <;> rfl
theorem Keep1.rd {a : Addr} {kvs : List (Key × V)} (k : Keep1 H H' a) (h : Rd H a (.dK kvs)) : Rd H' a (.dK kvs) := by
  rcases k with e | ⟨q, h1, h2⟩
  · unfold Rd at *; rw [e]; exact h
  · rw [rd_uniq h h1]; exact h2
theorem Keep1.ex {a : Addr} {u : HO} (k : Keep1 H H' a) (h : H a = some u) (h1 : ∀ q, u ≠ .dK q) (h2 : ∀ o q, u ≠ .frz o (.dK q)) : H' a = some u := by
  rcases k with e | ⟨q, h3, _⟩
  · rw [e]; exact h
  · rcases h3 with h3 | ⟨o, h3⟩
    · rw [h] at h3; exact absurd (Option.some.inj h3) (h1 q)
    · rw [h] at h3; exact absurd (Option.some.inj h3) (h2 o q)
abbrev Kept (M M' : MM) (H H' : Hp) (l : List Addr) (m : Md) : Prop :=
  ∀ a, M a ≠ none → (M a = some .own → a ∈ l ∨ m = .vw) → (M a = some .br → m = .br ∨ m = .vw) → M' a = M a ∧ Keep1 H H' a ∧ (a ∈ l → H' a = H a)
theorem NdX.mono {m : Md} {a : Addr} {u : HO} {l l' : List Addr} (x : NdX M H m a u) (k : Kept M M' H H' l m) (hl : l = consO m a l') (h1 : ∀ q, u ≠ .dK q) (h2 : ∀ o q, u ≠ .frz o (.dK q)) : NdX M' H' m a u := by
  obtain ⟨e1, e2⟩ := x
  have hk := k a e1.ne_none (fun e => by
    rcases e1.own e with z | z
    · left; rw [hl, z]; simp [consO]
    · exact .inr z) (fun e => e1.br e)
  exact ⟨e1.eq hk.1, hk.2.1.ex e2 h1 h2⟩
theorem NdI.mono {m : Md} {k : Nat} {a dx : Addr} {fvs : List (Str × V)} {l l' : List Addr} (x : NdI c M H m k a dx fvs) (kp : Kept M M' H H' l m) (hl : l = consO m a l') : NdI c M' H' m k a dx fvs := by
  rcases x with ⟨h0, x⟩ | ⟨h1, rfl, h2⟩
  · exact .inl ⟨h0, x.mono kp hl (fun q z => by cases z) (fun o q z => by cases z)⟩
  · have go : ∀ {b : Addr} {u : HO}, NdX M H .fz b u → (∀ q, u ≠ .dK q) → (∀ o q, u ≠ .frz o (.dK q)) → NdX M' H' .fz b u := fun {b u} x h3 h4 => by
      have e : M b = some .fz := x.1
      have hk := kp b (by rw [e]; simp) (fun z => by rw [e] at z; cases z) (fun z => by rw [e] at z; cases z)
      exact ⟨hk.1.trans e, hk.2.1.ex x.2 h3 h4⟩
    refine .inr ⟨h1, rfl, ?_⟩
    rcases h2 with ⟨e, h2⟩ | ⟨h2, h3⟩
    · exact .inl ⟨e, go h2 (fun q z => by cases z) (fun o q z => by cases z)⟩
    · exact .inr ⟨go h2 (fun q z => by cases z) (fun o q z => by cases z), go h3 (fun q z => by cases z) (fun o q z => by cases z)⟩
theorem GL.mono {a : Addr} {xs : List V} {l : List Addr} {p : Md} {K : PySem.W.Frag} (x : GL K M H a xs) (k : Kept M M' H H' l p) (hp : p = .br) : GL K M' H' a xs := by
  rcases x with x | ⟨e, o, h⟩
  · exact .inl x
  · have hk := k a (by rw [e]; simp) (fun z => by rw [e] at z; cases z) (fun _ => .inl hp)
    exact .inr ⟨hk.1.trans e, o, hk.2.1.ex h (fun q z => by cases z) (fun o' q z => by cases z)⟩
theorem Nd.mono {m : Md} {a : Addr} {q : List (Key × V)} {l l' : List Addr} (x : Nd M H m a (.dK q)) (k : Kept M M' H H' l m) (hl : l = consO m a l') : Nd M' H' m a (.dK q) := by
  obtain ⟨h1, h2, h3⟩ := x
  have hk := k a h1.ne_none (fun e => by
    rcases h1.own e with z | z
    · left; rw [hl, z]; simp [consO]
    · exact .inr z) (fun e => h1.br e)
  refine ⟨h1.eq hk.1, hk.2.1.rd h2, fun e => ?_⟩
  subst e
  rw [hk.2.2 (by rw [hl]; simp [consO])]
  exact h3 rfl
theorem Kept.sub {l l' : List Addr} {m m' : Md} (k : Kept M M' H H' l m) (hl : ∀ a ∈ l', a ∈ l) (hs : m' = .vw → m = .vw) (hb : m' = .br → m = .br ∨ m = .vw) : Kept M M' H H' l' m' := fun a h1 h2 h3 =>
  let z := k a h1 (fun e => (h2 e).imp (hl a) hs) fun e => (h3 e).elim hb fun q => .inr (hs q)
  ⟨z.1, z.2.1, fun h => z.2.2 (hl a h)⟩
mutual
theorem Rep.mono : ∀ (d : D) {v : V} {l : List Addr}, Rep c M H d v l → Kept M M' H H' l d.md → Rep c M' H' d v l
  | .non, _, _, h, _ => h
  | .bl _, _, _, h, _ => h
  | .int _, _, _, h, _ => h
  | .str _, _, _, h, _ => h
  | .tup m ds, v, l, h, k => by
    obtain ⟨a, vs, l', e, n, r, hl⟩ := h
    exact ⟨a, vs, l', e, n.imp (fun n => n.mono k hl (fun q z => by cases z) (fun o q z => by cases z)) id, Reps.mono ds r (Kept.sub k (fun b hb => by rw [hl]; exact mem_consO.mpr (.inr hb)) id .inl), hl⟩
  | .lst m ds, v, l, h, k => by
    obtain ⟨a, vs, l', e, n, r, hl⟩ := h
    exact ⟨a, vs, l', e, n.imp (fun n => n.mono k hl (fun q z => by cases z) (fun o q z => by cases z)) (fun z => ⟨z.1, z.2.mono k z.1⟩), Reps.mono ds r (Kept.sub k (fun b hb => by rw [hl]; exact mem_consO.mpr (.inr hb)) id .inl), hl⟩
  | .dic m ks ds, v, l, h, k => by
    obtain ⟨a, vs, l', e, n, ek, r, hl⟩ := h
    exact ⟨a, vs, l', e, n.mono k hl, ek, Reps.mono ds r (Kept.sub k (fun b hb => by rw [hl]; exact mem_consO.mpr (.inr hb)) id .inl), hl⟩
  | .ins m q fs ds, v, l, h, k => by
    obtain ⟨a, dx, fvs, l', e, n, ek, r, hl⟩ := h
    exact ⟨a, dx, fvs, l', e, n.mono k hl, ek, Reps.mono ds r (Kept.sub k (fun b hb => by rw [hl]; exact mem_consO.mpr (.inr hb)) id .inl), hl⟩
theorem Reps.mono : ∀ (ds : List D) {p : Md} {vs : List V} {l : List Addr}, Reps c M H p ds vs l → Kept M M' H H' l p → Reps c M' H' p ds vs l
  | [], _, _, _, h, _ => h
  | d :: ds, p, vs, l, h, k => by
    obtain ⟨v, vs', l1, l2, e, ck, r1, r2, hl⟩ := h
    exact ⟨v, vs', l1, l2, e, ck, Rep.mono d r1 (Kept.sub k (fun b hb => by rw [hl]; simp [hb]) (chOk_vw ck) (chOk_br ck)), Reps.mono ds r2 (Kept.sub k (fun b hb => by rw [hl]; simp [hb]) id .inl), hl⟩
end
mutual
/-- the own addresses are own, and there -/
theorem Rep.owns : ∀ (d : D) {v : V} {l : List Addr}, Rep c M H d v l → ∀ a ∈ l, M a = some .own ∧ H a ≠ none
  | .non, _, _, h, a, ha => by rw [h.2] at ha; cases ha
  | .bl _, _, _, h, a, ha => by rw [h.2] at ha; cases ha
  | .int _, _, _, h, a, ha => by rw [h.2] at ha; cases ha
  | .str _, _, _, h, a, ha => by rw [h.2] at ha; cases ha
  | .tup m ds, v, l, h, b, hb => by
    obtain ⟨a, vs, l', e, n, r, hl⟩ := h
    rw [hl, mem_consO] at hb
    rcases hb with ⟨rfl, rfl⟩ | hb
    · rcases n with n | n
      · exact ⟨n.1, by rw [n.2]; simp⟩
      · cases n.1
    · exact Reps.owns ds r b hb
  | .lst m ds, v, l, h, b, hb => by
    obtain ⟨a, vs, l', e, n, r, hl⟩ := h
    rw [hl, mem_consO] at hb
    rcases hb with ⟨rfl, rfl⟩ | hb
    · rcases n with n | n
      · exact ⟨n.1, by rw [n.2]; simp⟩
      · cases n.1
    · exact Reps.owns ds r b hb
  | .dic m ks ds, v, l, h, b, hb => by
    obtain ⟨a, vs, l', e, n, ek, r, hl⟩ := h
    rw [hl, mem_consO] at hb
    rcases hb with ⟨rfl, rfl⟩ | hb
    · exact ⟨n.1, by rw [n.2.2 rfl]; simp⟩
    · exact Reps.owns ds r b hb
  | .ins m q fs ds, v, l, h, b, hb => by
    obtain ⟨a, dx, fvs, l', e, n, ek, r, hl⟩ := h
    rw [hl, mem_consO] at hb
    rcases hb with ⟨rfl, rfl⟩ | hb
    · have n := (n.plain (.inl (by simp))).2
      exact ⟨n.1, by rw [n.2]; simp⟩
    · exact Reps.owns ds r b hb
theorem Reps.owns : ∀ (ds : List D) {p : Md} {vs : List V} {l : List Addr}, Reps c M H p ds vs l → ∀ a ∈ l, M a = some .own ∧ H a ≠ none
  | [], _, _, _, h, a, ha => by rw [h.2] at ha; cases ha
  | d :: ds, p, vs, l, h, a, ha => by
    obtain ⟨v, vs', l1, l2, e, ck, r1, r2, hl⟩ := h
    rw [hl, List.mem_append] at ha
    rcases ha with ha | ha
    · exact Rep.owns d r1 a ha
    · exact Reps.owns ds r2 a ha
end
mutual
/-- what is no own node has none below -/
theorem Rep.noOwn : ∀ (d : D) {v : V} {l : List Addr}, Rep c M H d v l → d.md ≠ .own → l = []
  | .non, _, _, h, _ => h.2
  | .bl _, _, _, h, _ => h.2
  | .int _, _, _, h, _ => h.2
  | .str _, _, _, h, _ => h.2
  | .tup m ds, v, l, h, e => by
    obtain ⟨a, vs, l', _, n, r, hl⟩ := h
    have := Reps.noOwn ds r e
    subst this; cases m <;> first | exact absurd rfl e | exact hl
  | .lst m ds, v, l, h, e => by
    obtain ⟨a, vs, l', _, n, r, hl⟩ := h
    have := Reps.noOwn ds r e
    subst this; cases m <;> first | exact absurd rfl e | exact hl
  | .dic m ks ds, v, l, h, e => by
    obtain ⟨a, vs, l', _, n, ek, r, hl⟩ := h
    have := Reps.noOwn ds r e
    subst this; cases m <;> first | exact absurd rfl e | exact hl
  | .ins m q fs ds, v, l, h, e => by
    obtain ⟨a, dx, fvs, l', _, n, ek, r, hl⟩ := h
    have := Reps.noOwn ds r e
    subst this; cases m <;> first | exact absurd rfl e | exact hl
theorem Reps.noOwn : ∀ (ds : List D) {p : Md} {vs : List V} {l : List Addr}, Reps c M H p ds vs l → p ≠ .own → l = []
  | [], _, _, _, h, _ => h.2
  | d :: ds, p, vs, l, h, e => by
    obtain ⟨v, vs', l1, l2, _, ck, r1, r2, hl⟩ := h
    rw [hl, Rep.noOwn d r1 (fun z => e (chOk_own ck z)), Reps.noOwn ds r2 e]; rfl
end
mutual
/-- the same, with the own nodes seen -/
theorem Rep.view : ∀ (d : D) {v : V} {l : List Addr}, Rep c M H d v l → Rep c M H (d.own2 .vw) v []
  | .non, _, _, h => ⟨h.1, rfl⟩
  | .bl _, _, _, h => ⟨h.1, rfl⟩
  | .int _, _, _, h => ⟨h.1, rfl⟩
  | .str _, _, _, h => ⟨h.1, rfl⟩
  | .tup m ds, v, l, h => by
    by_cases e : m = .own
    · subst e
      obtain ⟨a, vs, l', ev, n, r, hl⟩ := h
      refine ⟨a, vs, [], ev, ?_, Reps.view ds r, rfl⟩
      rcases n with n | n
      · exact .inl ⟨.inl n.1, n.2⟩
      · cases n.1
    · rw [own2_id (d := D.tup m ds) e]
      have := Rep.noOwn _ h e
      subst this; exact h
  | .lst m ds, v, l, h => by
    by_cases e : m = .own
    · subst e
      obtain ⟨a, vs, l', ev, n, r, hl⟩ := h
      refine ⟨a, vs, [], ev, ?_, Reps.view ds r, rfl⟩
      rcases n with n | n
      · exact .inl ⟨.inl n.1, n.2⟩
      · cases n.1
    · rw [own2_id (d := D.lst m ds) e]
      have := Rep.noOwn _ h e
      subst this; exact h
  | .dic m ks ds, v, l, h => by
    by_cases e : m = .own
    · subst e
      obtain ⟨a, vs, l', ev, n, ek, r, hl⟩ := h
      exact ⟨a, vs, [], ev, ⟨.inl n.1, n.2.1, fun z => by cases z⟩, ek, Reps.view ds r, rfl⟩
    · rw [own2_id (d := D.dic m ks ds) e]
      have := Rep.noOwn _ h e
      subst this; exact h
  | .ins m q fs ds, v, l, h => by
    by_cases e : m = .own
    · subst e
      obtain ⟨a, dx, vs, l', ev, n, ek, r, hl⟩ := h
      have n := n.plain (.inl (by simp))
      exact ⟨a, dx, vs, [], ev, .inl ⟨n.1, .inl n.2.1, n.2.2⟩, ek, Reps.view ds r, rfl⟩
    · rw [own2_id (d := D.ins m q fs ds) e]
      have := Rep.noOwn _ h e
      subst this; exact h
theorem Reps.view : ∀ (ds : List D) {vs : List V} {l : List Addr}, Reps c M H .own ds vs l → Reps c M H .vw (D.own2s .vw ds) vs []
  | [], _, _, h => ⟨h.1, rfl⟩
  | d :: ds, vs, l, h => by
    obtain ⟨v, vs', l1, l2, e, ck, r1, r2, hl⟩ := h
    refine ⟨v, vs', [], [], e, ?_, Rep.view d r1, Reps.view ds r2, rfl⟩
    rw [own2_md]
    cases hm : d.md <;> rw [hm] at ck <;> simp [chOk] at ck ⊢
end
/-- the own addresses of l frozen -/
def frzM (M : MM) (l : List Addr) : MM := fun a => if a ∈ l then some .fz else M a
theorem frzM_in {l : List Addr} {a : Addr} (h : a ∈ l) : frzM M l a = some .fz := if_pos h
theorem frzM_out {l : List Addr} {a : Addr} (h : a ∉ l) : frzM M l a = M a := if_neg h
mutual
theorem Rep.freeze (L : List Addr) : ∀ (d : D) {v : V} {l : List Addr}, Rep c M H d v l → (∀ a ∈ l, a ∈ L) → (∀ a ∈ L, M a = some .own) → d.cl = true → Rep c (frzM M L) H (d.own2 .fz) v []
  | .non, _, _, h, _, _, _ => ⟨h.1, rfl⟩
  | .bl _, _, _, h, _, _, _ => ⟨h.1, rfl⟩
  | .int _, _, _, h, _, _, _ => ⟨h.1, rfl⟩
  | .str _, _, _, h, _, _, _ => ⟨h.1, rfl⟩
  | .tup m ds, v, l, h, hs, hL, hc => by
    by_cases e : m = .own
    · subst e
      obtain ⟨a, vs, l', ev, n, r, hl⟩ := h
      refine ⟨a, vs, [], ev, ?_, Reps.freeze L ds r (fun b hb => hs b (by rw [hl]; simp [consO, hb])) hL, rfl⟩
      rcases n with n | n
      · exact .inl ⟨frzM_in (hs a (by rw [hl]; simp [consO])), n.2⟩
      · cases n.1
    · have hm : m = .fz := by cases m <;> simp [D.cl, D.md] at hc e ⊢
      subst hm
      have := Rep.noOwn _ h (by simp [D.md])
      subst this
      show Rep c (frzM M L) H (D.tup .fz ds) v []
      exact Rep.mono _ h fun a ha ho _ => ⟨frzM_out fun z => by have := ho (hL a z); simp [D.md] at this, Or.inl rfl, fun _ => rfl⟩
  | .lst m ds, v, l, h, hs, hL, hc => by
    by_cases e : m = .own
    · subst e
      obtain ⟨a, vs, l', ev, n, r, hl⟩ := h
      refine ⟨a, vs, [], ev, ?_, Reps.freeze L ds r (fun b hb => hs b (by rw [hl]; simp [consO, hb])) hL, rfl⟩
      rcases n with n | n
      · exact .inl ⟨frzM_in (hs a (by rw [hl]; simp [consO])), n.2⟩
      · cases n.1
    · have hm : m = .fz := by cases m <;> simp [D.cl, D.md] at hc e ⊢
      subst hm
      have := Rep.noOwn _ h (by simp [D.md])
      subst this
      show Rep c (frzM M L) H (D.lst .fz ds) v []
      exact Rep.mono _ h fun a ha ho _ => ⟨frzM_out fun z => by have := ho (hL a z); simp [D.md] at this, Or.inl rfl, fun _ => rfl⟩
  | .dic m ks ds, v, l, h, hs, hL, hc => by
    by_cases e : m = .own
    · subst e
      obtain ⟨a, vs, l', ev, n, ek, r, hl⟩ := h
      exact ⟨a, vs, [], ev, ⟨frzM_in (hs a (by rw [hl]; simp [consO])), n.2.1, fun z => by cases z⟩, ek, Reps.freeze L ds r (fun b hb => hs b (by rw [hl]; simp [consO, hb])) hL, rfl⟩
    · have hm : m = .fz := by cases m <;> simp [D.cl, D.md] at hc e ⊢
      subst hm
      have := Rep.noOwn _ h (by simp [D.md])
      subst this
      show Rep c (frzM M L) H (D.dic .fz ks ds) v []
      exact Rep.mono _ h fun a ha ho _ => ⟨frzM_out fun z => by have := ho (hL a z); simp [D.md] at this, Or.inl rfl, fun _ => rfl⟩
  | .ins m q fs ds, v, l, h, hs, hL, hc => by
    by_cases e : m = .own
    · subst e
      obtain ⟨a, dx, vs, l', ev, n, ek, r, hl⟩ := h
      have n := n.plain (.inl (by simp))
      exact ⟨a, dx, vs, [], ev, .inl ⟨n.1, frzM_in (hs a (by rw [hl]; simp [consO])), n.2.2⟩, ek, Reps.freeze L ds r (fun b hb => hs b (by rw [hl]; simp [consO, hb])) hL, rfl⟩
    · have hm : m = .fz := by cases m <;> simp [D.cl, D.md] at hc e ⊢
      subst hm
      have := Rep.noOwn _ h (by simp [D.md])
      subst this
      show Rep c (frzM M L) H (D.ins .fz q fs ds) v []
      exact Rep.mono _ h fun a ha ho _ => ⟨frzM_out fun z => by have := ho (hL a z); simp [D.md] at this, Or.inl rfl, fun _ => rfl⟩
theorem Reps.freeze (L : List Addr) : ∀ (ds : List D) {vs : List V} {l : List Addr}, Reps c M H .own ds vs l → (∀ a ∈ l, a ∈ L) → (∀ a ∈ L, M a = some .own) → Reps c (frzM M L) H .fz (D.own2s .fz ds) vs []
  | [], _, _, h, _, _ => ⟨h.1, rfl⟩
  | d :: ds, vs, l, h, hs, hL => by
    obtain ⟨v, vs', l1, l2, e, ck, r1, r2, hl⟩ := h
    have hcl : d.cl = true := by
      unfold D.cl
      cases hm : d.md <;> rw [hm] at ck <;> simp [chOk] at ck ⊢
    refine ⟨v, vs', [], [], e, ?_, Rep.freeze L d r1 (fun b hb => hs b (by rw [hl]; simp [hb])) hL hcl, Reps.freeze L ds r2 (fun b hb => hs b (by rw [hl]; simp [hb])) hL, rfl⟩
    rw [own2_md]
    cases hm : d.md <;> rw [hm] at ck <;> simp [chOk] at ck ⊢
end
theorem MA.frz {L : List Addr} {a : Addr} {m : Md} (h : MA M a m) (hL : ∀ a ∈ L, M a = some .own) (hm : m ≠ .own) : MA (frzM M L) a m := by
  by_cases z : a ∈ L
  · rcases h.own (hL a z) with e | e
    · exact absurd e hm
    · subst e; exact .inr (.inr (frzM_in z))
  · exact h.eq (frzM_out z)
/-- own ones lent -/
def lendM (M : MM) : MM := fun a => if M a = some .own then some .br else M a
theorem lendM_own {a : Addr} (h : M a = some .own) : lendM M a = some .br := if_pos h
theorem lendM_ne {a : Addr} (h : M a ≠ some .own) : lendM M a = M a := if_neg h
theorem lendM_none {a : Addr} (h : lendM M a ≠ none) : M a ≠ none := fun z => h (by rw [lendM_ne (by rw [z]; simp)]; exact z)
theorem MA.lend {a : Addr} (h : MA M a .vw) : MA (lendM M) a .br := by
  rcases h with h | h | h
  · exact .inl (lendM_own h)
  · exact .inl ((lendM_ne (by rw [h]; simp)).trans h)
  · exact .inr ((lendM_ne (by rw [h]; simp)).trans h)
mutual
theorem Rep.lend : ∀ (d : D) {v : V}, Rep c M H d v [] → d.md ≠ .own → Rep c (lendM M) H d.brd v []
  | .non, _, h, _ => h
  | .bl _, _, h, _ => h
  | .int _, _, h, _ => h
  | .str _, _, h, _ => h
  | .tup m ds, v, h, hm => by
    by_cases e : m = .vw
    · subst e
      obtain ⟨a, vs, l', ev, n, r, hl⟩ := h
      have : l' = [] := hl.symm
      subst this
      refine ⟨a, vs, [], ev, ?_, Reps.lend ds r, rfl⟩
      rcases n with n | n
      · exact .inl ⟨n.1.lend, n.2⟩
      · cases n.1
    · rw [brd_id (d := D.tup m ds) e]
      exact Rep.mono _ h fun a ha ho _ => ⟨lendM_ne fun z => by have := ho z; simp [D.md, e] at this, Or.inl rfl, fun _ => rfl⟩
  | .lst m ds, v, h, hm => by
    by_cases e : m = .vw
    · subst e
      obtain ⟨a, vs, l', ev, n, r, hl⟩ := h
      have : l' = [] := hl.symm
      subst this
      refine ⟨a, vs, [], ev, ?_, Reps.lend ds r, rfl⟩
      rcases n with n | n
      · exact .inl ⟨n.1.lend, n.2⟩
      · cases n.1
    · rw [brd_id (d := D.lst m ds) e]
      exact Rep.mono _ h fun a ha ho _ => ⟨lendM_ne fun z => by have := ho z; simp [D.md, e] at this, Or.inl rfl, fun _ => rfl⟩
  | .dic m ks ds, v, h, hm => by
    by_cases e : m = .vw
    · subst e
      obtain ⟨a, vs, l', ev, n, ek, r, hl⟩ := h
      have : l' = [] := hl.symm
      subst this
      exact ⟨a, vs, [], ev, ⟨n.1.lend, n.2.1, fun z => by cases z⟩, ek, Reps.lend ds r, rfl⟩
    · rw [brd_id (d := D.dic m ks ds) e]
      exact Rep.mono _ h fun a ha ho _ => ⟨lendM_ne fun z => by have := ho z; simp [D.md, e] at this, Or.inl rfl, fun _ => rfl⟩
  | .ins m q fs ds, v, h, hm => by
    by_cases e : m = .vw
    · subst e
      obtain ⟨a, dx, vs, l', ev, n, ek, r, hl⟩ := h
      have : l' = [] := hl.symm
      subst this
      have n := n.plain (.inl (by simp))
      exact ⟨a, dx, vs, [], ev, .inl ⟨n.1, n.2.1.lend, n.2.2⟩, ek, Reps.lend ds r, rfl⟩
    · rw [brd_id (d := D.ins m q fs ds) e]
      exact Rep.mono _ h fun a ha ho _ => ⟨lendM_ne fun z => by have := ho z; simp [D.md, e] at this, Or.inl rfl, fun _ => rfl⟩
theorem Reps.lend : ∀ (ds : List D) {vs : List V}, Reps c M H .vw ds vs [] → Reps c (lendM M) H .br (D.brds ds) vs []
  | [], _, h => h
  | d :: ds, vs, h => by
    obtain ⟨v, vs', l1, l2, e, ck, r1, r2, hl⟩ := h
    have h1 : l1 = [] := (List.append_eq_nil_iff.mp hl.symm).1
    have h2 : l2 = [] := (List.append_eq_nil_iff.mp hl.symm).2
    subst h1 h2
    have ho : d.md ≠ .own := fun z => by rw [z] at ck; simp [chOk] at ck
    refine ⟨v, vs', [], [], e, ?_, Rep.lend d r1 ho, Reps.lend ds r2, rfl⟩
    rw [brd_md]
    cases hm : d.md <;> rw [hm] at ck <;> simp [chOk] at ck ⊢
end
mutual
/-- what is not own stays where others are frozen -/
theorem Rep.frzAny (L : List Addr) (hL : ∀ a ∈ L, M a = some .own) : ∀ (d : D) {v : V}, Rep c M H d v [] → d.md ≠ .own → Rep c (frzM M L) H d v []
  | .non, _, h, _ => h
  | .bl _, _, h, _ => h
  | .int _, _, h, _ => h
  | .str _, _, h, _ => h
  | .tup m ds, v, h, hm => by
    obtain ⟨a, vs, l', ev, n, r, hl⟩ := h
    have h0 : l' = [] := Reps.noOwn ds r hm
    subst h0
    exact ⟨a, vs, [], ev, n.imp (fun n => ⟨n.1.frz hL hm, n.2⟩) id, Reps.frzAny L hL ds r hm, hl⟩
  | .lst m ds, v, h, hm => by
    obtain ⟨a, vs, l', ev, n, r, hl⟩ := h
    have h0 : l' = [] := Reps.noOwn ds r hm
    subst h0
    refine ⟨a, vs, [], ev, n.imp (fun n => ⟨n.1.frz hL hm, n.2⟩) (fun n => ⟨n.1, n.2.imp id fun z => ⟨?_, z.2⟩⟩), Reps.frzAny L hL ds r hm, hl⟩
    exact (frzM_out fun q => by rw [hL a q] at z; cases z.1).trans z.1
  | .dic m ks ds, v, h, hm => by
    obtain ⟨a, vs, l', ev, n, ek, r, hl⟩ := h
    have h0 : l' = [] := Reps.noOwn ds r hm
    subst h0
    exact ⟨a, vs, [], ev, ⟨n.1.frz hL hm, n.2.1, fun z => absurd z hm⟩, ek, Reps.frzAny L hL ds r hm, hl⟩
  | .ins m q fs ds, v, h, hm => by
    obtain ⟨a, dx, vs, l', ev, n, ek, r, hl⟩ := h
    have h0 : l' = [] := Reps.noOwn ds r hm
    subst h0
    have nn : NdI c (frzM M L) H m q a dx vs := by
      have go : ∀ {b : Addr} {u : HO}, NdX M H .fz b u → NdX (frzM M L) H .fz b u := fun {b u} x => ⟨MA.frz x.1 hL (by simp), x.2⟩
      rcases n with ⟨h0, n⟩ | ⟨h1, rfl, h2⟩
      · exact .inl ⟨h0, n.1.frz hL hm, n.2⟩
      · exact .inr ⟨h1, rfl, h2.imp (fun z => ⟨z.1, go z.2⟩) fun z => ⟨go z.1, go z.2⟩⟩
    exact ⟨a, dx, vs, [], ev, nn, ek, Reps.frzAny L hL ds r hm, hl⟩
theorem Reps.frzAny (L : List Addr) (hL : ∀ a ∈ L, M a = some .own) : ∀ (ds : List D) {p : Md} {vs : List V}, Reps c M H p ds vs [] → p ≠ .own → Reps c (frzM M L) H p ds vs []
  | [], _, _, h, _ => h
  | d :: ds, p, vs, h, hp => by
    obtain ⟨v, vs', l1, l2, e, ck, r1, r2, hl⟩ := h
    have h1 : l1 = [] := (List.append_eq_nil_iff.mp hl.symm).1
    have h2 : l2 = [] := (List.append_eq_nil_iff.mp hl.symm).2
    subst h1 h2
    exact ⟨v, vs', [], [], e, ck, Rep.frzAny L hL d r1 (fun z => hp (chOk_own ck z)), Reps.frzAny L hL ds r2 hp, rfl⟩
end
end
end GS

namespace GS
open PySem PySem.Spec PyProof.Rows L2

/-! ## the small syntax -/
inductive Bop where
  | add | sub | mul | fdiv | mod | pow | cat
  deriving DecidableEq
inductive Cop where
  | eq | ne | lt | le | gt | ge | isN | notN | isin | notin
  deriving DecidableEq
/-- calls of built-ins that look only -/
inductive Blt where
  | len | abs | min2 | max2 | str | int | list | tuple | dict | any | all | lenset | sorted
  deriving DecidableEq
/-- methods of built-in types that look only -/
inductive Bmt where
  | get1 | get2 | index | part | split | join | upper | vals
  deriving DecidableEq
/-- what isinstance asks -/
inductive Isi where
  | int | bool | str | list | tuple | dict | cls (c : Nat) | verr
  deriving DecidableEq

mutual
inductive Tm where
  | var (i : Nat)
  | cst (d : D)
  | glb (g : Nat)
  | op (o : Bop) (a b : Tm)
  | neg (a : Tm)
  | cmp (o : Cop) (a b : Tm)
  | chn (o o' : Cop) (a b c : Tm)
  | and (es : List Tm)
  | or (es : List Tm)
  | not (a : Tm)
  | ife (c a b : Tm)
  | fld (a : Tm) (f : Nat)
  | ix (a b : Tm)
  | slc (a : Tm) (lo hi : Option Tm)
  | lst (es : List Tm)
  | tup (es : List Tm)
  | dct (ks vs : List Tm)
  | cal (f : Nat) (es : List Tm)
  | mak (c : Nat) (es : List Tm)
  | met (a : Tm) (m : Nat) (es : List Tm)
  | blt (b : Blt) (es : List Tm)
  | bmt (b : Bmt) (a : Tm) (es : List Tm)
  | isi (a : Tm) (k : Isi)
  | cmpr (elt : Tm) (tg : Tg) (it : Itr) (ifs : List Tm)
inductive Itr where
  | rng1 (a : Tm)
  | rng2 (a b : Tm)
  | seq (a : Tm)
  | enm (a : Tm)
  | zip (a b : Tm)
  | keys (a : Tm)
  | items (a : Tm)
  | vals (a : Tm)
  | rev (a : Tm)
  | sgn (a : Tm)
inductive Tg where
  | nm (i : Nat)
  | tp (gs : List Tg)
end

/-- a place: a slot, then items, fields -/
inductive Stp where
  | ix (t : Tm)
  | fld (f : Nat)

mutual
inductive Cm where
  | set (i : Nat) (t : Tm)
  | unp (g : Tg) (t : Tm)
  | par (i j : Nat) (a b : Tm)
  | aug (i : Nat) (o : Bop) (t : Tm)
  | put (o : Bool) (i : Nat) (ss : List Stp) (ix t : Tm)
  | fput (o : Bool) (i : Nat) (ss : List Stp) (f : Nat) (t : Tm)
  | app (o : Bool) (i : Nat) (ss : List Stp) (t : Tm)
  | ext (i : Nat) (ss : List Stp) (t : Tm)
  | clr (i : Nat) (ss : List Stp)
  | ex (t : Tm)
  | ini (c : Nat) (es : List Tm)
  | ret (t : Tm)
  | retv (i : Nat)
  | ret0
  | ite (c : Tm) (a b : List Cm)
  | whl (c : Tm) (b : List Cm)
  | for_ (g : Tg) (it : Itr) (b : List Cm)
  | brk | cnt | pas
  | rai (c : Nat) (es : List Tm)
  | frz (i : Nat)
  | frzc (i : Nat)
  | kil (i : Nat)
  | never
  | try_ (b : List Cm) (hs : Hd)
/-- except clauses: class, name's slot, suite -/
inductive Hd where
  | nil
  | cons (c : Nat) (o : Option Nat) (su : List Cm) (hs : Hd)
end

/-! ## results -/
inductive Res (α : Type) where
  | ok (a : α)
  | ex (c : Nat) (ds : List D)
  | stuck
def Res.bind {α β : Type} (r : Res α) (f : α → Res β) : Res β := match r with
  | .ok a => f a
  | .ex c ds => .ex c ds
  | .stuck => .stuck
@[simp] theorem Res.bind_ok {α β : Type} (a : α) (f : α → Res β) : (Res.ok a).bind f = f a := Eq.trans rfl rfl
@[simp] theorem Res.bind_ex {α β : Type} (c : Nat) (ds : List D) (f : α → Res β) : (Res.ex c ds : Res α).bind f = .ex c ds := Eq.trans rfl rfl
@[simp] theorem Res.bind_stuck {α β : Type} (f : α → Res β) : (Res.stuck : Res α).bind f = .stuck := Eq.trans rfl rfl
/-- no exception may leave here -/
def Res.noEx {α : Type} : Res α → Res α
  | .ok a => .ok a
  | _ => .stuck
@[simp] theorem Res.noEx_ok {α : Type} (a : α) : (Res.ok a).noEx = .ok a := Eq.trans rfl rfl
def Res.guard (b : Bool) {α : Type} (r : Res α) : Res α := if b = true then r else .stuck
@[simp] theorem Res.guard_true {α : Type} (r : Res α) : Res.guard true r = r := Eq.trans rfl rfl
theorem Res.guard_of {b : Bool} {α : Type} {r : Res α} (h : b = true) : Res.guard b r = r := by subst h; rfl
def Res.ofOpt {α : Type} : Option α → Res α
  | some a => .ok a
  | none => .stuck
@[simp] theorem Res.ofOpt_some {α : Type} (a : α) : Res.ofOpt (some a) = .ok a := Eq.trans rfl rfl

abbrev Sl := List (Option D)
inductive RO where
  | ret (d : D) (fins : Sl)
  | ex (c : Nat) (ds : List D) (fins : Sl)
  | stuck
def RO.val : RO → Res D
  | .ret d _ => .ok d
  | .ex c ds _ => .ex c ds
  | .stuck => .stuck
@[simp] theorem RO.val_ret (d : D) (f : Sl) : (RO.ret d f).val = .ok d := Eq.trans rfl rfl
@[simp] theorem RO.val_ex (c : Nat) (ds : List D) (f : Sl) : (RO.ex c ds f).val = .ex c ds := Eq.trans rfl rfl
@[simp] theorem RO.val_stuck : RO.stuck.val = .stuck := Eq.trans rfl rfl
/-- a new instance, from what __init__ came to -/
def RO.made (frz : Bool) : RO → Res D
  | .ret .non (some d :: _) => Res.guard d.cl (.ok (if frz then d.own2 .fz else d))
  | .ex c ds _ => .ex c ds
  | _ => .stuck

/-! ## values -/
def mulOk (i j : Int) : Bool := !((decide (Builtin.Int.intBits i > shortFactorBits) && decide (Builtin.Int.intBits j > shortFactorBits)) && Builtin.Int.intTooBig (Builtin.Int.intBits i + Builtin.Int.intBits j))
def divOk (j : Int) : Bool := decide (j ≠ 0) && decide (j.natAbs.log2 < 9000)
/-- x * n for a text x -/
def smulOk (x : Str) (n : Int) : Bool := decide (0 ≤ n) && (decide (n ≤ 1000000) && decide (x.length * n.toNat ≤ 1000000))
def vBop : Bop → D → D → Res D
  | .add, .int i, .int j => .ok (.int (i + j))
  | .sub, .int i, .int j => .ok (.int (i - j))
  | .mul, .int i, .int j => Res.guard (mulOk i j) (.ok (.int (i * j)))
  | .fdiv, .int i, .int j => Res.guard (divOk j) (.ok (.int (i.fdiv j)))
  | .mod, .int i, .int j => Res.guard (decide (j ≠ 0)) (.ok (.int (i.fmod j)))
  | .pow, .int i, .int j => Res.guard (decide (0 ≤ j) && (decide (j ≤ 1000000) && decide (i.natAbs < 2 ^ 64))) (.ok (.int (i ^ j.toNat)))
  | .add, .str x, .str y => Res.guard (decide (x.length + y.length ≤ sizeLine)) (.ok (.str (x ++ y)))
  | .mul, .str x, .int n => Res.guard (smulOk x n) (.ok (.str (PySem.Txt.mul x n)))
  | .cat, .lst m xs, .lst m' ys => Res.guard (!(decide (m = .br)) && !(decide (m' = .br)) && decide (xs.length + ys.length ≤ sizeLine) && (xs.all D.cl && ys.all D.cl)) (.ok (.lst .own (D.own2s .fz xs ++ D.own2s .fz ys)))
  | _, _, _ => .stuck
def vNeg : D → Res D
  | .int i => .ok (.int (-i))
  | _ => .stuck
mutual
def D.py : D → Option PyData
  | .non => some .none
  | .bl b => some (.bool b)
  | .int i => some (.int i)
  | .str x => some (.str x)
  | .lst _ ds => (D.pys ds).map .list
  | .tup _ ds => (D.pys ds).map .tuple
  | _ => none
def D.pys : List D → Option (List PyData)
  | [] => some []
  | d :: ds => (D.py d).bind fun x => (D.pys ds).map fun xs => x :: xs
end
/-- == -/
def vEq : D → D → Res Bool
  | .int i, .int j => .ok (decide (i = j))
  | .str x, .str y => .ok (decide (x = y))
  | .bl a, .bl b => .ok (decide (a = b))
  | x, y => match x.py, y.py with
    | some a, some b => Res.guard (SeqAt.shaped a && SeqAt.shaped b) (.ok (PyData.eqv a b))
    | _, _ => .stuck
def D.v : D → Option V
  | .non => some .non
  | .bl b => some (.bl b)
  | .int i => some (.int i)
  | .str x => some (.str x)
  | _ => none
def allV : List D → Option (List V)
  | [] => some []
  | d :: ds => d.v.bind fun x => (allV ds).map fun xs => x :: xs
def D.key : D → Option Key
  | .int i => some (.inl i)
  | .str x => some (.inr x)
  | _ => none
/-- the place of a key -/
def atKeyD (k : Key) : List Key → List D → Option D
  | q :: ks, d :: ds => if q = k then some d else atKeyD k ks ds
  | _, _ => none
def vIn (x : D) : D → Res Bool
  | .lst _ ds => Res.ofOpt (x.v.bind fun a => (allV ds).map fun vs => inV a vs)
  | .tup _ ds => Res.ofOpt (x.v.bind fun a => (allV ds).map fun vs => inV a vs)
  | .dic _ ks _ => Res.ofOpt (x.key.map fun k => ks.any fun q => decide (q = k))
  | .str s => match x with
    | .str t => .ok (!(Builtin.Str.occurrences s t 0 s.length 1).isEmpty)
    | _ => .stuck
  | _ => .stuck
def D.isN : D → Bool
  | .non => true
  | _ => false
def vCop : Cop → D → D → Res Bool
  | .eq, x, y => vEq x y
  | .ne, x, y => (vEq x y).bind fun b => .ok (!b)
  | .lt, .int i, .int j => .ok (decide (i < j))
  | .le, .int i, .int j => .ok (decide (i ≤ j))
  | .gt, .int i, .int j => .ok (decide (j < i))
  | .ge, .int i, .int j => .ok (decide (j ≤ i))
  | .isN, x, .non => .ok x.isN
  | .notN, x, .non => .ok (!x.isN)
  | .isin, x, y => vIn x y
  | .notin, x, y => (vIn x y).bind fun b => .ok (!b)
  | _, _, _ => .stuck
/-- truth -/
def vTru : D → Res Bool
  | .bl b => .ok b
  | .int i => .ok (i != 0)
  | .non => .ok false
  | .lst _ ds => .ok (!ds.isEmpty)
  | .tup _ ds => .ok (!ds.isEmpty)
  | .dic _ ks _ => .ok (!ks.isEmpty)
  | .str x => Res.guard (decide (x.length ≤ sizeLine)) (.ok (x.length != 0))
  | _ => .stuck
def vBl : D → Res Bool
  | .bl b => .ok b
  | _ => .stuck
def atFld (f : Nat) : List Nat → List D → Option D
  | q :: fs, d :: ds => if q = f then some d else atFld f fs ds
  | _, _ => none
def vFld (ok : Nat → Nat → Bool) (f : Nat) : D → Res D
  | .ins _ k fs ds => Res.guard (ok k f) (Res.ofOpt (atFld f fs ds))
  | _ => .stuck
def vIx : D → D → Res D
  | .lst _ ds, .int i => Res.ofOpt (atI ds i)
  | .tup _ ds, .int i => Res.ofOpt (atI ds i)
  | .str x, .int i => Res.guard (decide (x.length ≤ sizeLine)) (Res.ofOpt ((atI x.cps.toList i).map fun c => .str ⟨#[c]⟩))
  | .dic _ ks ds, k => Res.ofOpt (k.key.bind fun k => atKeyD k ks ds)
  | _, _ => .stuck
def cutD {α : Type} (xs : List α) (lo hi : Option Int) : List α := (xs.drop (HT.sIx xs.length 0 lo)).take (HT.sIx xs.length xs.length hi - HT.sIx xs.length 0 lo)
def vSlc : D → Option Int → Option Int → Res D
  | .lst _ ds, lo, hi => Res.guard ((cutD ds lo hi).all D.cl) (.ok (.lst .own (D.own2s .fz (cutD ds lo hi))))
  | .str x, lo, hi => Res.guard (decide (x.length ≤ sizeLine)) (.ok (.str (cutS x lo hi)))
  | _, _, _ => .stuck
def vInt : D → Res Int
  | .int i => .ok i
  | _ => .stuck
def vKey : D → Res Key
  | .int i => .ok (.inl i)
  | .str x => .ok (.inr x)
  | _ => .stuck
def keyD : Key → D
  | .inl i => .int i
  | .inr x => .str x
/-- the least sub-list for any, all -/
def allBl : List D → Option (List Bool)
  | [] => some []
  | .bl b :: ds => (allBl ds).map fun bs => b :: bs
  | _ :: _ => none
def vBlt : Blt → List D → Res D
  | .len, [.lst _ ds] => .ok (.int ds.length)
  | .len, [.tup _ ds] => .ok (.int ds.length)
  | .len, [.dic _ ks _] => .ok (.int ks.length)
  | .len, [.str x] => Res.guard (decide (x.length ≤ sizeLine)) (.ok (.int x.length))
  | .abs, [.int i] => .ok (.int (if i < 0 then -i else i))
  | .min2, [.int i, .int j] => .ok (.int (if j < i then j else i))
  | .max2, [.int i, .int j] => .ok (.int (if j > i then j else i))
  | .str, [.int i] => Res.guard (decide (i.natAbs.log2 < 1920)) (.ok (.str (toString i)))
  | .int, [.int i] => .ok (.int i)
  | .int, [.bl b] => .ok (.int (if b then 1 else 0))
  | .int, [.str x] => match PySem.intText? x with
    | some n => Res.guard (decide (x.length ≤ 640)) (.ok (.int n))
    | none => .stuck
  | .list, [.lst _ ds] => Res.guard (ds.all D.cl) (.ok (.lst .own (D.own2s .fz ds)))
  | .list, [.tup _ ds] => Res.guard (ds.all D.cl) (.ok (.lst .own (D.own2s .fz ds)))
  | .list, [.dic _ ks _] => .ok (.lst .own (ks.map keyD))
  | .dict, [.dic _ ks ds] => Res.guard (ds.all D.cl) (.ok (.dic .own ks (D.own2s .fz ds)))
  | .any, [.lst _ ds] => Res.ofOpt ((allBl ds).map fun bs => .bl (bs.any id))
  | .all, [.lst _ ds] => Res.ofOpt ((allBl ds).map fun bs => .bl (bs.all id))
  | _, _ => .stuck
/-- the receivers of these methods -/
def bmtR : Bmt → D → Bool
  | .get1, .dic _ _ _ => true
  | .get2, .dic _ _ _ => true
  | .index, .lst _ _ => true
  | .part, .str _ => true
  | .split, .str _ => true
  | .join, .str _ => true
  | .upper, .str _ => true
  | .vals, .dic _ _ _ => true
  | _, _ => false
def vBmt : Bmt → D → List D → Res D
  | .get2, .dic _ ks ds, [k, x] => (vKey k).bind fun k => .ok ((atKeyD k ks ds).getD x)
  | .vals, .dic _ _ ds, [] => Res.guard (ds.all D.cl) (.ok (.lst .own (D.own2s .fz ds)))
  | .get1, .dic _ ks ds, [k] => (vKey k).bind fun k => .ok ((atKeyD k ks ds).getD .non)
  | _, _, _ => .stuck
/-- a value's built-in type, or its class -/
def D.ty : D → String ⊕ Nat
  | .non => .inl "NoneType"
  | .bl _ => .inl "bool"
  | .int _ => .inl "int"
  | .str _ => .inl "str"
  | .lst _ _ => .inl "list"
  | .tup _ _ => .inl "tuple"
  | .dic _ _ _ => .inl "dict"
  | .ins _ k _ _ => .inr k
def isiN : Isi → String
  | .int => "int" | .bool => "bool" | .str => "str" | .list => "list" | .tuple => "tuple" | .dict => "dict" | .cls _ => "" | .verr => ""
/-- the exceptions' classes have this mark -/
def xcB (sub : Nat → List Nat) (k : Nat) : Bool := decide (999 ∈ sub k)
/-- what isinstance says; sub c: the classes above the class c, itself among them -/
def vIsi (sub : Nat → List Nat) (k : Isi) (d : D) : Res Bool := match d.ty, k with
  | .inl _, .cls _ => .ok false
  | .inl _, .verr => .stuck
  | .inr q, .verr => Res.guard (xcB sub q) (.ok true)
  | .inl t, k => .ok (decide (t = isiN k) || (decide (t = "bool") && decide (isiN k = "int")))
  | .inr q, .cls c => Res.guard (!(sub q).isEmpty) (.ok (decide (c ∈ sub q)))
  | .inr q, _ => Res.guard (!(sub q).isEmpty) (.ok false)
def pairs : List D → List D → List D
  | x :: xs, y :: ys => .tup .vw [x, y] :: pairs xs ys
  | _, _ => []
def enums (i : Nat) : List D → List D
  | [] => []
  | x :: xs => .tup .vw [.int i, x] :: enums (i + 1) xs
def rangeD (lo : Int) (n : Nat) : List D := (List.range n).map fun i => .int (lo + (i : Nat))
def small62 (i : Int) : Bool := decide (-(2 ^ 62) ≤ i) && decide (i < 2 ^ 62)
/-- may be walked while statements run: not a seen one -/
def walkOk (st : Bool) (d : D) : Bool := !st || !(decide (d.md = .vw))
/-- what a value is walked as (own ones are temporary: nobody can change them) -/
def vSeq : D → Res (List D)
  | .lst .own ds => .ok (D.own2s .fz ds)
  | .lst _ ds => .ok ds
  | .tup .own ds => .ok (D.own2s .fz ds)
  | .tup _ ds => .ok ds
  | _ => .stuck
def vLst : D → Res (List D)
  | .lst .own ds => .ok (D.own2s .fz ds)
  | .lst _ ds => .ok ds
  | _ => .stuck
def vDic : D → Res (List Key × List D)
  | .dic .own ks ds => .ok (ks, D.own2s .fz ds)
  | .dic _ ks ds => .ok (ks, ds)
  | _ => .stuck

mutual
/-- the slots behind target = d -/
def bindT : Tg → D → Sl → Option Sl
  | .nm i, d, s => some (s.set i (some d))
  | .tp gs, .tup _ ds, s => bindTs gs ds s
  | .tp gs, .lst _ ds, s => bindTs gs ds s
  | .tp _, _, _ => none
def bindTs : List Tg → List D → Sl → Option Sl
  | [], [], s => some s
  | g :: gs, d :: ds, s => (bindT g d s).bind fun s' => bindTs gs ds s'
  | _, _, _ => none
end
mutual
def tgNames : Tg → List Nat
  | .nm i => [i]
  | .tp gs => tgNamess gs
def tgNamess : List Tg → List Nat
  | [] => []
  | g :: gs => tgNames g ++ tgNamess gs
end
def wipeS (s : Sl) : List Nat → Sl
  | [] => s
  | i :: is => (wipeS s is).set i none

/-! ## the evaluator -/
structure GE where
  call : Nat → List D → RO
  make : Nat → List D → RO
  glob : Nat → D
  meth : Nat → Nat → Option Nat
  frz : Nat → Bool
  sub : Nat → List Nat
  init : Nat → Option Nat
  /-- the class k may have the field f -/
  fok : Nat → Nat → Bool
  /-- an exception's fields -/
  xf : Nat → List Nat

/-- a comprehension's loop -/
def compL (bnd : D → Option Sl) (tst : Sl → Res Bool) (elt : Sl → Res D) : List D → Res (List D)
  | [] => .ok []
  | d :: ds => (Res.ofOpt (bnd d)).bind fun s => (tst s).bind fun b =>
    if b = true then (elt s).bind fun y => Res.guard y.cl ((compL bnd tst elt ds).bind fun ys => .ok (y :: ys)) else compL bnd tst elt ds

variable (G : GE)
mutual
def evalE : Tm → Sl → Res D
  | .var i, s => match s[i]? with
    | some (some d) => .ok d
    | _ => .stuck
  | .cst d, _ => .ok d
  | .glb g, _ => .ok (G.glob g)
  | .op o a b, s => (evalE a s).bind fun x => (evalE b s).bind fun y => vBop o x y
  | .neg a, s => (evalE a s).bind vNeg
  | .cmp o a b, s => (evalE a s).bind fun x => (evalE b s).bind fun y => (vCop o x y).bind fun r => .ok (.bl r)
  | .chn o o' a b c, s => (evalE a s).bind fun x => (evalE b s).bind fun y => (vCop o x y).bind fun r =>
      if r = true then (evalE c s).bind fun z => (vCop o' y z).bind fun r => .ok (.bl r) else .ok (.bl false)
  | .and es, s => (evalAnd es s).bind fun b => .ok (.bl b)
  | .or es, s => (evalOr es s).bind fun b => .ok (.bl b)
  | .not a, s => (evalE a s).bind fun x => (vBl x).bind fun b => .ok (.bl (!b))
  | .ife c a b, s => (evalE c s).bind fun x => (vTru x).bind fun r => if r = true then evalE a s else evalE b s
  | .fld a f, s => (evalE a s).bind (vFld G.fok f)
  | .ix a b, s => (evalE a s).bind fun x => (evalE b s).bind fun y => vIx x y
  | .slc a lo hi, s => (evalE a s).bind fun x => (evalO lo s).bind fun l => (evalO hi s).bind fun h => vSlc x l h
  | .lst es, s => (evalL es s).bind fun ds => Res.guard (ds.all D.cl && decide (ds.length ≤ sizeLine)) (.ok (.lst .own ds))
  | .tup es, s => (evalL es s).bind fun ds => Res.guard (ds.all D.cl && decide (ds.length ≤ sizeLine)) (.ok (.tup .own ds))
  | .dct ks vs, s => (evalL vs s).bind fun ds => (evalL ks s).bind fun kd => match ks, vs with
      | [], [] => .ok (.dic .own [] [])
      | _, _ => .stuck
  | .cal f es, s => (evalL es s).bind fun ds => (G.call f (ds.map D.arg)).val
  | .mak c es, s => (evalL es s).bind fun ds => match G.init c with
      | some f => (G.make f (.ins .own c [] [] :: ds.map D.arg)).made (G.frz c)
      | none => .stuck
  | .met a m es, s => (evalE a s).bind fun x => match x with
      | .ins _ c fs _ => match G.meth c m with
        | some f => Res.guard (!(fs.any fun g => decide (g = m))) <| (evalL es s).bind fun ds => (G.call f ((x :: ds).map D.arg)).val
        | none => .stuck
      | _ => .stuck
  | .blt b es, s => (evalL es s).bind fun ds => vBlt b ds
  | .bmt b a es, s => (evalE a s).bind fun x => Res.guard (bmtR b x) <| (evalL es s).bind fun ds => vBmt b x ds
  | .isi a k, s => (evalE a s).bind fun x => (vIsi G.sub k x).bind fun r => .ok (.bl r)
  | .cmpr elt tg it ifs, s => (evalI false it s).bind fun ds =>
      (compL (fun d => bindT tg d (wipeS s (tgNames tg))) (fun s' => (evalIf ifs s').noEx) (fun s' => (evalE elt s').noEx) ds).bind fun ys => Res.guard (decide (ys.length ≤ sizeLine)) (.ok (.lst .own ys))
def evalL : List Tm → Sl → Res (List D)
  | [], _ => .ok []
  | t :: ts, s => (evalE t s).bind fun d => (evalL ts s).bind fun ds => .ok (d :: ds)
def evalO : Option Tm → Sl → Res (Option Int)
  | none, _ => .ok none
  | some t, s => (evalE t s).bind fun d => (vInt d).bind fun i => .ok (some i)
def evalAnd : List Tm → Sl → Res Bool
  | [], _ => .ok true
  | t :: ts, s => (evalE t s).bind fun d => (vBl d).bind fun b => if b = true then evalAnd ts s else .ok false
def evalOr : List Tm → Sl → Res Bool
  | [], _ => .ok false
  | t :: ts, s => (evalE t s).bind fun d => (vBl d).bind fun b => if b = true then .ok true else evalOr ts s
def evalIf : List Tm → Sl → Res Bool
  | [], _ => .ok true
  | t :: ts, s => (evalE t s).bind fun d => (vTru d).bind fun b => if b = true then evalIf ts s else .ok false
def evalI (st : Bool) : Itr → Sl → Res (List D)
  | .rng1 a, s => (evalE a s).bind fun x => (vInt x).bind fun n => Res.guard (small62 n) (.ok (rangeD 0 n.toNat))
  | .rng2 a b, s => (evalE a s).bind fun x => (vInt x).bind fun m => (evalE b s).bind fun y => (vInt y).bind fun n => Res.guard (small62 m && small62 n) (.ok (rangeD m (n - m).toNat))
  | .seq a, s => (evalE a s).bind fun x => Res.guard (walkOk st x) (vSeq x)
  | .enm a, s => (evalE a s).bind fun x => Res.guard (walkOk st x) ((vLst x).bind fun ds => .ok (enums 0 ds))
  | .zip a b, s => (evalE a s).bind fun x => (evalE b s).bind fun y => Res.guard (walkOk st x && walkOk st y) ((vLst x).bind fun xs => (vLst y).bind fun ys => .ok (pairs xs ys))
  | .keys a, s => (evalE a s).bind fun x => Res.guard (walkOk st x) ((vDic x).bind fun p => .ok (p.1.map keyD))
  | .items a, s => (evalE a s).bind fun x => Res.guard (walkOk st x) ((vDic x).bind fun p => .ok (pairs (p.1.map keyD) p.2))
  | .vals a, s => (evalE a s).bind fun x => Res.guard (walkOk st x) ((vDic x).bind fun p => .ok p.2)
  | .rev a, s => (evalE a s).bind fun x => Res.guard (walkOk st x) ((vLst x).bind fun ds => .ok ds.reverse)
  | .sgn a, s => (evalE a s).bind fun x => match x with
      | .str z => .ok (z.cps.toList.map fun c => .str ⟨#[c]⟩)
      | _ => .stuck
end

/-! ## statements -/
inductive Out where
  | nx (s : Sl)
  | rt (d : D) (s : Sl)
  | bk (s : Sl)
  | ct (s : Sl)
  | ex (c : Nat) (ds : List D) (s : Sl)
  | stuck
def Out.ofRes {α : Type} (s : Sl) (r : Res α) (f : α → Out) : Out := match r with
  | .ok a => f a
  | .ex c ds => .ex c ds s
  | .stuck => .stuck
@[simp] theorem Out.ofRes_ok {α : Type} (s : Sl) (a : α) (f : α → Out) : Out.ofRes s (.ok a) f = f a := Eq.trans rfl rfl
@[simp] theorem Out.ofRes_ex {α : Type} (s : Sl) (c : Nat) (ds : List D) (f : α → Out) : Out.ofRes s (.ex c ds : Res α) f = .ex c ds s := Eq.trans rfl rfl
@[simp] theorem Out.ofRes_stuck {α : Type} (s : Sl) (f : α → Out) : Out.ofRes s (.stuck : Res α) f = .stuck := Eq.trans rfl rfl
def Out.bind (o : Out) (f : Sl → Out) : Out := match o with
  | .nx s => f s
  | o => o
@[simp] theorem Out.bind_nx (s : Sl) (f : Sl → Out) : (Out.nx s).bind f = f s := Eq.trans rfl rfl
@[simp] theorem Out.bind_rt (d : D) (s : Sl) (f : Sl → Out) : (Out.rt d s).bind f = .rt d s := Eq.trans rfl rfl
@[simp] theorem Out.bind_bk (s : Sl) (f : Sl → Out) : (Out.bk s).bind f = .bk s := Eq.trans rfl rfl
@[simp] theorem Out.bind_ct (s : Sl) (f : Sl → Out) : (Out.ct s).bind f = .ct s := Eq.trans rfl rfl
@[simp] theorem Out.bind_ex (c : Nat) (ds : List D) (s : Sl) (f : Sl → Out) : (Out.ex c ds s).bind f = .ex c ds s := Eq.trans rfl rfl
@[simp] theorem Out.bind_stuck (f : Sl → Out) : Out.stuck.bind f = .stuck := Eq.trans rfl rfl

def viewS (s : Sl) : Sl := s.map fun o => o.map (D.own2 .vw)
/-- the slot i may be stored to: no parameter's own object stands there -/
def freeAt (np : Nat) (s : Sl) (i : Nat) : Bool := !(decide (i < np) && (match s[i]? with
  | some (some d) => decide (d.md = .own)
  | _ => false))
def notVw (d : D) : Bool := !(decide (d.md = .vw))
/-- target = d by statements -/
def setS (np : Nat) (i : Nat) (d : D) (s : Sl) : Option Sl := if (freeAt np s i && notVw d) = true then some (s.set i (some d)) else none
mutual
def bindS (np : Nat) : Tg → D → Sl → Option Sl
  | .nm i, d, s => setS np i d s
  | .tp gs, .tup _ ds, s => bindSs np gs ds s
  | .tp gs, .lst _ ds, s => bindSs np gs ds s
  | .tp _, _, _ => none
def bindSs (np : Nat) : List Tg → List D → Sl → Option Sl
  | [], [], s => some s
  | g :: gs, d :: ds, s => (bindS np g d s).bind fun s' => bindSs np gs ds s'
  | _, _, _ => none
end
/-! stores along a path of own nodes -/
inductive RS where
  | ix (d : D)
  | fld (f : Nat)
def setKey (k : Key) (y : D) : List Key → List D → List D
  | q :: ks, d :: ds => if q = k then y :: ds else d :: setKey k y ks ds
  | _, ds => ds
def setFld (f : Nat) (y : D) : List Nat → List D → List D
  | q :: fs, d :: ds => if q = f then y :: ds else d :: setFld f y fs ds
  | _, ds => ds
def updAt (g : D → Option D) : List RS → D → Option D
  | [], d => g d
  | .ix k :: r, .lst .own ds => match k with
    | .int i => (ixN ds.length i).bind fun j => (ds[j]?).bind fun d => (updAt g r d).map fun d' => .lst .own (ds.set j d')
    | _ => none
  | .ix k :: r, .dic .own ks ds => (D.key k).bind fun q => (atKeyD q ks ds).bind fun d => (updAt g r d).map fun d' => .dic .own ks (setKey q d' ks ds)
  | .fld f :: r, .ins .own c fs ds => (atFld f fs ds).bind fun d => (updAt g r d).map fun d' => .ins .own c fs (setFld f d' fs ds)
  | _, _ => none
def kept (o : Bool) (d : D) : D := if o then d else d.own2 .fz
def gApp (y : D) : D → Option D
  | .lst .own ds => if ds.length < sizeLine then some (.lst .own (ds ++ [y])) else none
  | _ => none
def gPut (k y : D) : D → Option D
  | .lst .own ds => match k with
    | .int i => (ixN ds.length i).map fun j => .lst .own (ds.set j y)
    | _ => none
  | .dic .own ks ds => (D.key k).bind fun q => if ks.length < sizeLine then (if (ks.any fun p => decide (p = q)) = true then some (.dic .own ks (setKey q y ks ds)) else some (.dic .own (ks ++ [q]) (ds ++ [y]))) else none
  | _ => none
def gFput (ok : Nat → Nat → Bool) (f : Nat) (y : D) : D → Option D
  | .ins .own c fs ds => if (ok c f && decide (fs.length < 900)) = false then none else if fs.any (fun p => decide (p = f)) then some (.ins .own c fs (setFld f y fs ds)) else some (.ins .own c (fs ++ [f]) (ds ++ [y]))
  | _ => none
def gExt (ys : List D) : D → Option D
  | .lst .own ds => if ds.length + ys.length ≤ sizeLine then some (.lst .own (ds ++ ys)) else none
  | _ => none
def gClr : D → Option D
  | .lst .own _ => some (.lst .own [])
  | .dic .own _ _ => some (.dic .own [] [])
  | _ => none
def atSlot (i : Nat) (rs : List RS) (g : D → Option D) (s : Sl) : Out := match s[i]? with
  | some (some d) => match updAt g rs d with
    | some d' => .nx (s.set i (some d'))
    | none => .stuck
  | _ => .stuck
/-- what stands at a path of own nodes is of this kind -/
def hasAt (i : Nat) (rs : List RS) (k : D → Bool) (s : Sl) : Bool := match s[i]? with
  | some (some d) => (updAt (fun d => if k d = true then some d else none) rs d).isSome
  | _ => false
def isLstO : D → Bool
  | .lst .own _ => true
  | _ => false
def evalSt : List Stp → Sl → Res (List RS)
  | [], _ => .ok []
  | .ix t :: r, s => (evalE G t s).bind fun d => (evalSt r s).bind fun rs => .ok (.ix d :: rs)
  | .fld f :: r, s => (evalSt r s).bind fun rs => .ok (.fld f :: rs)
/-- a for's loop -/
def forL (bnd : D → Sl → Option Sl) (body : Sl → Out) : List D → Sl → Out
  | [], s => .nx s
  | d :: ds, s => match bnd d s with
    | none => .stuck
    | some s1 => match body s1 with
      | .nx s2 => forL bnd body ds s2
      | .ct s2 => forL bnd body ds s2
      | .bk s2 => .nx s2
      | o => o
/-- a while's loop -/
inductive WhR (step : Sl → Sl ⊕ Out) : Sl → Out → Prop
  | stop {s o} : step s = .inr o → WhR step s o
  | more {s s' o} : step s = .inl s' → WhR step s' o → WhR step s o
open Classical in
noncomputable def whileV (step : Sl → Sl ⊕ Out) (s : Sl) : Out := if h : ∃ o, WhR step s o then h.choose else .stuck
theorem WhR.det {step : Sl → Sl ⊕ Out} {s : Sl} {o o' : Out} (a : WhR step s o) (b : WhR step s o') : o = o' := by
  induction a with
  | stop e => cases b with
    | stop e' => rw [e] at e'; exact Sum.inr.inj e'
    | more e' _ => rw [e] at e'; cases e'
  | more e _ ih => cases b with
    | stop e' => rw [e] at e'; cases e'
    | more e' b => rw [e] at e'; cases e'; exact ih b
theorem whileV_eq {step : Sl → Sl ⊕ Out} {s : Sl} {o : Out} (h : WhR step s o) : whileV step s = o := by
  have hx : ∃ o, WhR step s o := ⟨o, h⟩
  unfold whileV
  rw [dif_pos hx]
  exact hx.choose_spec.det h
theorem whileV_rel {step : Sl → Sl ⊕ Out} {s : Sl} (h : whileV step s ≠ .stuck) : WhR step s (whileV step s) := by
  unfold whileV at h ⊢
  split
  · next hx => exact hx.choose_spec
  · next hx => rw [dif_neg hx] at h; exact absurd rfl h
theorem whileV_step {step : Sl → Sl ⊕ Out} {s s' : Sl} (h : step s = .inl s') : whileV step s = whileV step s' := by
  by_cases hx : ∃ o, WhR step s' o
  · obtain ⟨o, ho⟩ := hx
    rw [whileV_eq ho, whileV_eq (.more h ho)]
  · have hy : ¬ ∃ o, WhR step s o := fun ⟨o, ho⟩ => by
      cases ho with
      | stop e => rw [h] at e; cases e
      | more e b => rw [h] at e; cases e; exact hx ⟨o, b⟩
    unfold whileV
    rw [dif_neg hx, dif_neg hy]
theorem whileV_stop {step : Sl → Sl ⊕ Out} {s : Sl} {o : Out} (h : step s = .inr o) : whileV step s = o := whileV_eq (.stop h)

/-- behind an except suite: the name goes -/
def Out.hend (o : Option Nat) : Out → Out
  | .nx s => .nx (match o with | some i => s.set i none | none => s)
  | .bk s => .bk (match o with | some i => s.set i none | none => s)
  | .ct s => .ct (match o with | some i => s.set i none | none => s)
  | .rt d s => .rt d s
  | _ => .stuck
/-- a caught exception -/
def excD (xf : Nat → List Nat) (c : Nat) (ds : List D) : D := .ins .fz c (xf c).reverse ds.reverse
/-- the slots where a suite begins -/
def hstart (np : Nat) (o : Option Nat) (x : D) (s : Sl) : Option Sl := match o with
  | some i => if np ≤ i ∧ i < s.length then some (s.set i (some x)) else none
  | none => some s
variable (W : (Sl → Sl ⊕ Out) → Sl → Out) (np : Nat)
def toStep (s : Sl) (r : Res Bool) (b : Sl → Out) : Sl ⊕ Out := match r with
  | .ok true => match b s with
    | .nx s' => .inl s'
    | .ct s' => .inl s'
    | .bk s' => .inr (.nx s')
    | o => .inr o
  | .ok false => .inr (.nx s)
  | .ex c ds => .inr (.ex c ds s)
  | .stuck => .inr .stuck
def ofOpt (o : Option Sl) : Out := match o with
  | some s => .nx s
  | none => .stuck
@[simp] theorem ofOpt_some (s : Sl) : ofOpt (some s) = .nx s := Eq.trans rfl rfl
mutual
def exec : Cm → Sl → Out
  | .set i t, s => Out.ofRes s (evalE G t (viewS s)) fun d => ofOpt (setS np i d s)
  | .unp g t, s => Out.ofRes s (evalE G t (viewS s)) fun d => ofOpt (bindS np g d s)
  | .par i j a b, s => Out.ofRes s (evalE G a (viewS s)) fun x => Out.ofRes s (evalE G b (viewS s)) fun y => ofOpt ((setS np i x s).bind fun s' => setS np j y s')
  | .aug i o t, s => Out.ofRes s (evalE G t (viewS s)) fun y => Out.ofRes s (evalE G (.var i) (viewS s)) fun x => match x, y with
      | .int _, .int _ => Out.ofRes s (vBop o x y) fun d => ofOpt (setS np i d s)
      | .str _, .str _ => Out.ofRes s (vBop o x y) fun d => ofOpt (setS np i d s)
      | _, _ => .stuck
  | .put o i ss ix t, s => Out.ofRes s (evalE G t (viewS s)) fun y => Out.ofRes s (evalSt G ss (viewS s)) fun rs => if hasAt i rs (fun d => decide (d.md = .own)) s = true then Out.ofRes s (evalE G ix (viewS s)) fun k =>
      if y.cl = true then atSlot i rs (gPut k (kept o y)) s else .stuck else .stuck
  | .fput o i ss f t, s => Out.ofRes s (evalE G t (viewS s)) fun y => Out.ofRes s (evalSt G ss (viewS s)) fun rs =>
      if y.cl = true then atSlot i rs (gFput G.fok f (kept o y)) s else .stuck
  | .app o i ss t, s => Out.ofRes s (evalSt G ss (viewS s)) fun rs => if hasAt i rs isLstO s = true then Out.ofRes s (evalE G t (viewS s)) fun y =>
      if y.cl = true then atSlot i rs (gApp (kept o y)) s else .stuck else .stuck
  | .ext i ss t, s => Out.ofRes s (evalSt G ss (viewS s)) fun rs => if hasAt i rs isLstO s = true then Out.ofRes s (evalE G t (viewS s)) fun y => match y with
      | .lst m ds => if (ds.all D.cl && !(decide (m = .vw)) && !(decide (m = .br))) = true then atSlot i rs (gExt (D.own2s .fz ds)) s else .stuck
      | _ => .stuck else .stuck
  | .clr i ss, s => Out.ofRes s (evalSt G ss (viewS s)) fun rs => atSlot i rs gClr s
  | .ex t, s => Out.ofRes s (evalE G t (viewS s)) fun _ => .nx s
  | .ini c es, s => Out.ofRes s (evalL G es (viewS (s.set 0 none))).noEx fun ds => match G.init c with
      | some f => match (s[0]? : Option (Option D)) with
        | some (some (.ins .own k fs vs)) => match G.call f (.ins .own k fs vs :: ds.map D.arg) with
          | .ret _ (some d :: _) => if d.md = .own then .nx (s.set 0 (some d)) else .stuck
          | .ex c ds _ => .ex c ds (s.set 0 none)
          | _ => .stuck
        | _ => .stuck
      | none => .stuck
  | .ret t, s => Out.ofRes s (evalE G t (viewS s)) fun d => if d.cl = true then .rt d s else .stuck
  | .retv i, s => match s[i]? with
      | some (some d) => if (d.cl && decide (np ≤ i)) = true then .rt d (s.set i none) else .stuck
      | _ => .stuck
  | .ret0, s => .rt .non s
  | .ite c a b, s => Out.ofRes s ((evalE G c (viewS s)).bind vTru) fun r => if r = true then execs a s else execs b s
  | .whl c b, s => W (fun s => toStep s ((evalE G c (viewS s)).bind vTru) (fun s => execs b s)) s
  | .for_ g it b, s => Out.ofRes s (evalI G true it (viewS s)) fun ds => forL (bindS np g) (fun s => execs b s) ds s
  | .brk, s => .bk s
  | .cnt, s => .ct s
  | .pas, s => .nx s
  | .rai c es, s => Out.ofRes s (evalL G es (viewS s)) fun ds => if (ds.all D.cl && (xcB G.sub c && decide ((G.xf c).length = ds.length))) = true then .ex c (D.own2s .fz ds) s else .stuck
  | .frz i, s => match s[i]? with
      | some (some d) => if (freeAt np s i) = true then .nx (s.set i (some (d.own2 .fz))) else .stuck
      | _ => .stuck
  | .frzc i, s => match (s[i]? : Option (Option D)) with
      | some (some (.lst .own ds)) => .nx (s.set i (some (.lst .own (D.own2s .fz ds))))
      | some (some (.dic .own ks ds)) => .nx (s.set i (some (.dic .own ks (D.own2s .fz ds))))
      | _ => .stuck
  | .kil i, s => if np ≤ i then .nx (s.set i none) else .stuck
  | .never, _ => .stuck
  | .try_ b hs, s => match execs b s with
    | .ex c ds _ => execH hs c ds s
    | o => o
/-- the first clause that fits -/
def execH : Hd → Nat → List D → Sl → Out
  | .nil, c, ds, s => .ex c ds s
  | .cons hc o su hs, c, ds, s => if (xcB G.sub c && xcB G.sub hc) = true then (if decide (hc ∈ G.sub c) = true then
      (if (decide ((G.xf c).length = ds.length) && ds.all fun d => decide (d.md = .fz)) = true then (match hstart np o (excD G.xf c ds) s with
        | some s' => (execs su s').hend o
        | none => .stuck) else .stuck) else execH hs c ds s) else .stuck
def execs : List Cm → Sl → Out
  | [], s => .nx s
  | c :: cs, s => (exec c s).bind fun s' => execs cs s'
end

/-! ## defs by levels -/
structure Df where
  np : Nat
  ns : Nat
  code : List Cm
  dfl : List D
structure TB where
  defs : Nat → Option Df
  glob : Nat → D
  meth : Nat → Nat → Option Nat
  frz : Nat → Bool
  sub : Nat → List Nat
  init : Nat → Option Nat
  fok : Nat → Nat → Bool
  xf : Nat → List Nat
def finsOf : List D → Sl → Sl
  | a :: as, o :: s => (if a.md = .own then o else none) :: finsOf as s
  | _, _ => []
def Out.toRO (args : List D) : Out → RO
  | .nx s => .ret .non (finsOf args s)
  | .rt d s => .ret d (finsOf args s)
  | .ex c ds s => if ds.all D.cl = true then .ex c ds [] else .stuck
  | _ => .stuck
def startS (df : Df) (args : List D) : Sl := args.map some ++ List.replicate (df.ns - args.length) none
def fill (df : Df) (ds : List D) : List D := ds ++ df.dfl.drop (df.dfl.length - (df.np - ds.length))
/-- exceptions with fields are made from the second level on -/
def xfAt (T : TB) (k c : Nat) : List Nat := if 2 ≤ k then T.xf c else []
def GEof (T : TB) (k : Nat) (p : (Nat → List D → RO) × (Nat → List D → RO)) : GE := ⟨p.1, p.2, T.glob, T.meth, T.frz, T.sub, T.init, T.fok, xfAt T k⟩
def runDf (G : GE) (W : (Sl → Sl ⊕ Out) → Sl → Out) (df : Df) (args : List D) : RO := (execs G W df.np df.code (startS df args)).toRO args
def runs (T : TB) (W : (Sl → Sl ⊕ Out) → Sl → Out) : Nat → (Nat → List D → RO) × (Nat → List D → RO)
  | 0 => (fun _ _ => .stuck, fun _ _ => .stuck)
  | k + 1 => (fun f ds => match T.defs f with
      | some df => if (fill df ds).length = df.np ∧ ds.length ≤ df.np then runDf (GEof T k (runs T W k)) W df (fill df ds) else .stuck
      | none => .stuck, (runs T W k).1)
end GS

namespace GS
open PySem PySem.Spec PyProof.Rows L2

/-! ## the weakest readings -/
section
variable (X : Cx)
def WE (e : Expr) : TE := fun σ H Q => ∃ t, PE X e t ∧ t σ H Q
theorem we {X : Cx} {e : Expr} : PE X e (WE X e) := ⟨fun pins s σ H Q I ⟨t, h, q⟩ => h.run pins s σ H Q I q⟩
def WT (e : Expr) : TT := fun σ H Q => ∃ t, PT X e t ∧ t σ H Q
theorem wt {X : Cx} {e : Expr} : PT X e (WT X e) := ⟨fun pins s σ H Q I ⟨t, h, q⟩ => h.run pins s σ H Q I q⟩
def WP (e : Expr) : TT := fun σ H Q => ∃ t, PW X e t ∧ t σ H Q
theorem wp_ {X : Cx} {e : Expr} : PW X e (WP X e) := ⟨fun w pins s σ H Q I ⟨t, h, q⟩ => h.run w pins s σ H Q I q⟩
def WA (es : List Expr) : TA := fun σ H Q => ∃ t, PA X es t ∧ t σ H Q
theorem wa {X : Cx} {es : List Expr} : PA X es (WA X es) := ⟨fun p pins s σ H Q I ⟨t, h, q⟩ => h.run p pins s σ H Q I q⟩
def WS (st : Stmt) : TS := fun D σ H => ∃ t, PS X st t ∧ t D σ H
theorem ws {X : Cx} {st : Stmt} : PS X st (WS X st) := ⟨fun pins s σ H D I ⟨t, h, q⟩ => h.run pins s σ H D I q⟩
def WSs (st : List Stmt) : TS := fun D σ H => ∃ t, PSs X st t ∧ t D σ H
theorem wss {X : Cx} {st : List Stmt} : PSs X st (WSs X st) := ⟨fun pins s σ H D I ⟨t, h, q⟩ => h.run pins s σ H D I q⟩
def WOp (f : Value → Value → Sem Value) : R2 := fun x y H Q => ∃ r, OpR X f r ∧ r x y H Q
theorem wop {X : Cx} {f : Value → Value → Sem Value} : OpR X f (WOp X f) := fun pins s σ H x y v u Q I rx ry ⟨r, h, q⟩ => h pins s σ H x y v u Q I rx ry q
def WCall (f : Value) : List V → Hp → VK → Prop := fun xs H Q => ∃ r, CallR X f r ∧ r xs H Q
theorem wcall {X : Cx} {f : Value} : CallR X f (WCall X f) := fun pins s σ H xs us Q I r ⟨t, h, q⟩ => h pins s σ H xs us Q I r q
def WTru : V → Hp → (Bool → Hp → Prop) → Prop := fun x H Q => ∃ r, TruR X r ∧ r x H Q
theorem wtru {X : Cx} : TruR X (WTru X) := fun pins s σ H x v Q I rx ⟨r, h, q⟩ => h pins s σ H x v Q I rx q
def WIx : R2 := fun x y H Q => ∃ r, IxR X r ∧ r x y H Q
end

/-! ## results and what is wanted -/
def PR {α : Type} (r : Res α) (K : α → Prop) (E : Nat → List D → Prop) : Prop := match r with
  | .ok a => K a
  | .ex c ds => E c ds
  | .stuck => False
theorem PR.imp {α : Type} {r : Res α} {K K' : α → Prop} {E E' : Nat → List D → Prop} (h : PR r K E) (hk : ∀ a, r = .ok a → K a → K' a) (he : ∀ c ds, E c ds → E' c ds) : PR r K' E' := by
  cases r with
  | ok a => exact hk a rfl h
  | ex c ds => exact he c ds h
  | stuck => exact h
theorem PR.bind {α β : Type} {r : Res α} {f : α → Res β} {K : β → Prop} {E : Nat → List D → Prop} (h : PR (r.bind f) K E) : PR r (fun a => PR (f a) K E) E := by
  cases r <;> exact h
theorem PR.unbind {α β : Type} {r : Res α} {f : α → Res β} {K : β → Prop} {E : Nat → List D → Prop} (h : PR r (fun a => PR (f a) K E) E) : PR (r.bind f) K E := by
  cases r <;> exact h
theorem PR.guard {α : Type} {b : Bool} {r : Res α} {K : α → Prop} {E : Nat → List D → Prop} (h : PR (Res.guard b r) K E) : b = true ∧ PR r K E := by
  cases b with
  | true => exact ⟨rfl, h⟩
  | false => exact False.elim h
theorem PR.ofOpt {α : Type} {o : Option α} {K : α → Prop} {E : Nat → List D → Prop} (h : PR (Res.ofOpt o) K E) : ∃ a, o = some a ∧ K a := by
  cases o with
  | some a => exact ⟨a, rfl, h⟩
  | none => exact False.elim h
theorem PR.noEx {α : Type} {r : Res α} {K : α → Prop} {E E' : Nat → List D → Prop} (h : PR r.noEx K E) : PR r K E' := by
  cases r with
  | ok a => exact h
  | _ => exact False.elim h

/-! ## states -/
/-- a step that changes nothing that stood -/
structure St0 (M : MM) (H : Hp) (M' : MM) (H' : Hp) : Prop where
  k : ∀ a, H a ≠ none → H' a = H a ∧ M' a = M a
  d : ∀ a, M' a ≠ none → H' a ≠ none
def Dom (M : MM) (H : Hp) : Prop := ∀ a, M a ≠ none → H a ≠ none
theorem St0.refl {M : MM} {H : Hp} (d : Dom M H) : St0 M H M H := ⟨fun _ _ => ⟨rfl, rfl⟩, d⟩
theorem St0.trans {M M1 M2 : MM} {H H1 H2 : Hp} (a : St0 M H M1 H1) (b : St0 M1 H1 M2 H2) : St0 M H M2 H2 := ⟨fun x hx => by
  obtain ⟨e1, e2⟩ := a.k x hx
  obtain ⟨e3, e4⟩ := b.k x (by rw [e1]; exact hx)
  exact ⟨e3.trans e1, e4.trans e2⟩, b.d⟩
theorem St0.fresh {M M1 : MM} {H H1 : Hp} (a : St0 M H M1 H1) {x : Addr} (h : H1 x = none) : H x = none := by
  cases e : H x with
  | none => rfl
  | some o => rw [(a.k x (by rw [e]; simp)).1, e] at h; cases h
section
variable {c : RC} {M M' : MM} {H H' : Hp}
theorem Rep.step {d : D} {v : V} {l : List Addr} (r : Rep c M H d v l) (hd : Dom M H) (s : St0 M H M' H') : Rep c M' H' d v l :=
  Rep.mono d r fun a ha _ _ => ⟨(s.k a (hd a ha)).2, .inl (s.k a (hd a ha)).1, fun _ => (s.k a (hd a ha)).1⟩
theorem Reps.step {p : Md} {ds : List D} {vs : List V} {l : List Addr} (r : Reps c M H p ds vs l) (hd : Dom M H) (s : St0 M H M' H') : Reps c M' H' p ds vs l :=
  Reps.mono ds r fun a ha _ _ => ⟨(s.k a (hd a ha)).2, .inl (s.k a (hd a ha)).1, fun _ => (s.k a (hd a ha)).1⟩
end
/-- a list of values of any modes -/
def RepA (c : RC) (M : MM) (H : Hp) : List D → List V → List Addr → Prop
  | [], vs, l => vs = [] ∧ l = []
  | d :: ds, vs, l => ∃ v vs' l1 l2, vs = v :: vs' ∧ Rep c M H d v l1 ∧ RepA c M H ds vs' l2 ∧ l = l1 ++ l2
theorem RepA.step {c : RC} {M M' : MM} {H H' : Hp} (hd : Dom M H) (s : St0 M H M' H') : ∀ {ds : List D} {vs : List V} {l : List Addr}, RepA c M H ds vs l → RepA c M' H' ds vs l
  | [], _, _, h => h
  | _ :: _, _, _, ⟨v, vs', l1, l2, e, r1, r2, hl⟩ => ⟨v, vs', l1, l2, e, r1.step hd s, RepA.step hd s r2, hl⟩
theorem RepA.len {c : RC} {M : MM} {H : Hp} : ∀ {ds : List D} {vs : List V} {l : List Addr}, RepA c M H ds vs l → vs.length = ds.length
  | [], _, _, h => by rw [h.1]; rfl
  | _ :: _, _, _, ⟨v, vs', l1, l2, e, r1, r2, hl⟩ => by rw [e]; simp [RepA.len r2]
theorem RepA.own {c : RC} {M : MM} {H : Hp} : ∀ {ds : List D} {vs : List V} {l : List Addr}, RepA c M H ds vs l → ∀ a ∈ l, M a = some .own ∧ H a ≠ none
  | [], _, _, h, a, ha => by rw [h.2] at ha; cases ha
  | d :: _, _, _, ⟨v, vs', l1, l2, e, r1, r2, hl⟩, a, ha => by
    rw [hl, List.mem_append] at ha
    rcases ha with ha | ha
    · exact Rep.owns d r1 a ha
    · exact RepA.own r2 a ha
/-- the slots as expressions see them -/
structure RelS (c : RC) (M : MM) (s : Sl) (σ : L2.St) (H : Hp) : Prop where
  len : s.length = σ.length
  dom : Dom M H
  at_ : ∀ (i : Nat) (d : D), s[i]? = some (some d) → ∃ v, σ[i]? = some (some v) ∧ Rep c M H d v []
theorem RelS.step {c : RC} {M M' : MM} {s : Sl} {σ : L2.St} {H H' : Hp} (R : RelS c M s σ H) (st : St0 M H M' H') : RelS c M' s σ H' :=
  ⟨R.len, st.d, fun i d e => let ⟨v, h1, h2⟩ := R.at_ i d e; ⟨v, h1, h2.step R.dom st⟩⟩

/-! ## what is wanted of an expression -/
/-- an exception's own dict holds its fields -/
def XRep (c : RC) (xf : Nat → List Nat) (M : MM) (H : Hp) (e : Nat) (xs : List D) (dx : Option Addr) : Prop := match xs with
  | [] => dx = none
  | _ => ∃ a vs, dx = some a ∧ M a = some .fz ∧ RepA c M H xs vs [] ∧ H a = some (.xd (((xf e).map c.an).zip vs).reverse)
structure Env' where
  c : RC
  /-- an exception's fields -/
  xf : Nat → List Nat
  /-- defs: names, addresses; classes' names; the names of the module's constants -/
  fn : Nat → Str
  fa : Nat → Addr
  cn : Nat → Str
  gn : Nat → Str
  /-- the defs that are called by name; the classes -/
  okf : Nat → Bool
  okc : Nat → Bool
theorem Keep1.trans {H H1 H2 : Hp} {a : Addr} (x : Keep1 H H1 a) (y : Keep1 H1 H2 a) : Keep1 H H2 a := by
  rcases x with e | ⟨q, h1, h2⟩
  · rcases y with e' | ⟨q, h1, h2⟩
    · exact .inl (e'.trans e)
    · exact .inr ⟨q, by unfold Rd at *; rw [← e]; exact h1, h2⟩
  · exact .inr ⟨q, h1, y.rd h2⟩
/-- behind an exception: dicts may still be locked -/
def KeepX (H H' : Hp) (a : Addr) : Prop := H' a = H a ∨ ∃ kvs od, H a = some (.dK kvs) ∧ H' a = some (.frz od (.dK kvs))
theorem KeepX.k1 {H H' : Hp} {a : Addr} (k : KeepX H H' a) : Keep1 H H' a := k.imp id fun ⟨q, od, h1, h2⟩ => ⟨q, .inl h1, .inr ⟨od, h2⟩⟩
theorem KeepX.trans {H H1 H2 : Hp} {a : Addr} (x : KeepX H H1 a) (y : KeepX H1 H2 a) : KeepX H H2 a := by
  rcases x with e | ⟨q, od, h1, h2⟩
  · rcases y with e' | ⟨q, od, h1, h2⟩
    · exact .inl (e'.trans e)
    · exact .inr ⟨q, od, by rw [← e]; exact h1, h2⟩
  · rcases y with e' | ⟨q', od', h3, h4⟩
    · exact .inr ⟨q, od, h1, e'.trans h2⟩
    · rw [h2] at h3; cases h3
structure StX (M : MM) (H : Hp) (M' : MM) (H' : Hp) : Prop where
  k : ∀ a, H a ≠ none → KeepX H H' a ∧ M' a = M a
  d : Dom M' H'
theorem KeepX.there {H H' : Hp} {a : Addr} (k : KeepX H H' a) (h : H a ≠ none) : H' a ≠ none := by
  rcases k with e | ⟨q, od, _, h2⟩
  · rw [e]; exact h
  · rw [h2]; simp
theorem Keep1.there {H H' : Hp} {a : Addr} (k : Keep1 H H' a) (h : H a ≠ none) : H' a ≠ none := by
  rcases k with e | ⟨q, _, h2⟩
  · rw [e]; exact h
  · rcases h2 with h2 | ⟨o, h2⟩ <;> (rw [h2]; simp)
theorem St0.x {M M' : MM} {H H' : Hp} (s : St0 M H M' H') : StX M H M' H' := ⟨fun a ha => ⟨.inl (s.k a ha).1, (s.k a ha).2⟩, s.d⟩
theorem StX.trans {M M1 M2 : MM} {H H1 H2 : Hp} (a : StX M H M1 H1) (b : StX M1 H1 M2 H2) : StX M H M2 H2 := ⟨fun x hx => by
  obtain ⟨e1, e2⟩ := a.k x hx
  obtain ⟨e3, e4⟩ := b.k x (e1.there hx)
  exact ⟨e1.trans e3, e4.trans e2⟩, b.d⟩
def PX (n : Env') (M : MM) (H : Hp) (W : XK) : Nat → List D → Prop := fun e xs => ∀ dx M' H', StX M H M' H' → XRep n.c n.xf M' H' e xs dx → W (.ref (n.c.ca e)) dx H'
theorem PX.step {n : Env'} {M M' : MM} {H H' : Hp} {W : XK} (st : St0 M H M' H') {e : Nat} {xs : List D} (h : PX n M H W e xs) : PX n M' H' W e xs := fun dx M2 H2 st2 x => h dx M2 H2 (st.x.trans st2) x
def PE1 (n : Env') (M : MM) (H : Hp) (Q : VK) (d : D) : Prop := ∀ v M' H' l, St0 M H M' H' → Rep n.c M' H' d v l → (∀ a ∈ l, H a = none) → l.Nodup → Q v H'
def PA1 (n : Env') (M : MM) (H : Hp) (Q : List V → Hp → Prop) (ds : List D) : Prop := ∀ vs M' H' l, St0 M H M' H' → RepA n.c M' H' ds vs l → (∀ a ∈ l, H a = none) → l.Nodup → Q vs H'
def PT1 (M : MM) (H : Hp) (Q : Bool → Hp → Prop) (b : Bool) : Prop := ∀ M' H', St0 M H M' H' → Q b H'

/-- the context is a fit one -/
structure FX (n : Env') (X : Cx) : Prop where
  K : n.c.K = X.K
  hu : X.A.units + 64 < cLine
  nd : X.N.Nodup
/-- .. and no except suite -/
structure FXc (n : Env') (X : Cx) : Prop extends FX n X where
  calm : X.calm = true
/-- an expression does what its small term says -/
def SE (n : Env') (G : GE) (X : Cx) (e : Expr) (t : Tm) : Prop := ∀ (W : WX), Takes X W → ∀ M s σ H Q, RelS n.c M s σ H → PR (evalE G t s) (PE1 n M H Q) (PX n M H fun cls d H' => W cls d σ H') → WE X e σ H Q
def SA (n : Env') (G : GE) (X : Cx) (es : List Expr) (ts : List Tm) : Prop := ∀ (W : WX), Takes X W → ∀ M s σ H Q, RelS n.c M s σ H → PR (evalL G ts s) (PA1 n M H Q) (PX n M H fun cls d H' => W cls d σ H') → WA X es σ H Q
/-- a test -/
def ST (n : Env') (G : GE) (X : Cx) (e : Expr) (t : Tm) : Prop := ∀ (W : WX), Takes X W → ∀ M s σ H Q, RelS n.c M s σ H → PR ((evalE G t s).bind vTru) (PT1 M H Q) (PX n M H fun cls d H' => W cls d σ H') → WT X e σ H Q

section
variable {n : Env'} {G : GE} {X : Cx} {W : WX} {M : MM} {H : Hp} {s : Sl} {σ : L2.St}
/-- laying a new node -/
def layM (M : MM) (p : Addr) (m : Md) : MM := fun a => if a = p then some m else M a
theorem layM_same {p : Addr} {m : Md} : layM M p m p = some m := if_pos rfl
theorem layM_ne {p a : Addr} {m : Md} (h : a ≠ p) : layM M p m a = M a := if_neg h
theorem St0.lay {p : Addr} {m : Md} {o : HO} (d : Dom M H) (hp : H p = none) : St0 M H (layM M p m) (upd H p o) := ⟨fun a ha => by
  have : a ≠ p := fun z => ha (by rw [z]; exact hp)
  exact ⟨upd_ne this, layM_ne this⟩, fun a ha => by
  by_cases z : a = p
  · rw [z, upd_same]; simp
  · rw [upd_ne z]; rw [layM_ne z] at ha; exact d a ha⟩

/-! ### names and constants -/
theorem se_var {i : Nat} {x : Str} {pos : Pos} (hN : X.N[i]? = some x) (hv : Vis X.env.scope x) (hd : (x == ("__debug__" : Str)) = false) (hcd : (x == ("__classdict__" : Str)) = false) : SE n G X (.Name x pos) (.var i) := by
  intro W tk M s σ H Q R h
  unfold evalE at h
  split at h
  · next d e =>
    obtain ⟨v, e1, r⟩ := R.at_ i d e
    exact ⟨_, pe_var hN hv hd hcd, v, e1, h v M H [] (St0.refl R.dom) r (fun _ z => nomatch z) .nil⟩
  · exact False.elim h
theorem PE1.now {Q : VK} {d : D} {v : V} (h : PE1 n M H Q d) (hd : Dom M H) (r : Rep n.c M H d v []) : Q v H := h v M H [] (St0.refl hd) r (fun _ z => nomatch z) .nil
theorem se_int {i : Int} {j : Nat} {pos : Pos} : SE n G X (.Constant (.int i) j pos) (.cst (.int i)) := fun W tk M s σ H Q R h => ⟨_, pe_int, PE1.now (d := .int i) (by unfold evalE at h; exact h) R.dom ⟨rfl, rfl⟩⟩
theorem se_bl {b : Bool} {j : Nat} {pos : Pos} : SE n G X (.Constant (.bool b) j pos) (.cst (.bl b)) := fun W tk M s σ H Q R h => ⟨_, pe_bl, PE1.now (d := .bl b) (by unfold evalE at h; exact h) R.dom ⟨rfl, rfl⟩⟩
theorem se_non {j : Nat} {pos : Pos} : SE n G X (.Constant .none j pos) (.cst .non) := fun W tk M s σ H Q R h => ⟨_, pe_non, PE1.now (d := .non) (by unfold evalE at h; exact h) R.dom ⟨rfl, rfl⟩⟩
theorem se_str {x : Str} {j : Nat} {pos : Pos} : SE n G X (.Constant (.str x) j pos) (.cst (.str x)) := fun W tk M s σ H Q R h => ⟨_, pe_str, PE1.now (d := .str x) (by unfold evalE at h; exact h) R.dom ⟨rfl, rfl⟩⟩

/-! ### two values -/
/-- two expressions, then something of both -/
theorem two' {a b : Expr} {ta tb : Tm} (ha : SE n G X a ta) (hb : SE n G X b tb) (tk : Takes X W) (R : RelS n.c M s σ H) {β : Type} {f : D → D → Res β} {K : β → Prop} {P : V → V → Hp → Prop}
    (h : PR ((evalE G ta s).bind fun x => (evalE G tb s).bind fun y => f x y) K (PX n M H fun cls d H' => W cls d σ H'))
    (hf : ∀ x y v u M' H' l1 l2, evalE G ta s = .ok x → evalE G tb s = .ok y → St0 M H M' H' → Rep n.c M' H' x v l1 → Rep n.c M' H' y u l2 → (∀ q ∈ l1 ++ l2, H q = none) → (l1 ++ l2).Nodup → PR (f x y) K (PX n M' H' fun cls d H' => W cls d σ H') → P v u H') :
    WE X a σ H fun v H1 => WE X b σ H1 fun u H2 => P v u H2 := by
  refine ha W tk M s σ H _ R (h.bind.imp (fun x ex hx v M1 H1 l1 s1 r1 f1 n1 => ?_) fun _ _ q => q)
  refine hb W tk M1 s σ H1 _ (R.step s1) (hx.bind.imp (fun y ey hy u M2 H2 l2 s2 r2 f2 n2 => ?_) fun _ _ q => q.step s1)
  refine hf x y v u M2 H2 l1 l2 ex ey (s1.trans s2) (r1.step s1.d s2) r2 (fun q hq => ?_) ?_ (hy.imp (fun _ _ z => z) fun _ _ z => z.step (s1.trans s2))
  · rcases List.mem_append.mp hq with hq | hq
    · exact f1 q hq
    · exact s1.fresh (f2 q hq)
  · refine List.nodup_append.mpr ⟨n1, n2, fun q hq r hr e => ?_⟩
    subst e
    exact absurd (f2 q hr) (Rep.owns x r1 q hq).2
theorem two {a b : Expr} {ta tb : Tm} (ha : SE n G X a ta) (hb : SE n G X b tb) (tk : Takes X W) (R : RelS n.c M s σ H) {β : Type} {f : D → D → Res β} {K : β → Prop} {P : V → V → Hp → Prop}
    (h : PR ((evalE G ta s).bind fun x => (evalE G tb s).bind fun y => f x y) K (PX n M H fun cls d H' => W cls d σ H'))
    (hf : ∀ x y v u M' H' l1 l2, St0 M H M' H' → Rep n.c M' H' x v l1 → Rep n.c M' H' y u l2 → (∀ q ∈ l1 ++ l2, H q = none) → (l1 ++ l2).Nodup → PR (f x y) K (PX n M' H' fun cls d H' => W cls d σ H') → P v u H') :
    WE X a σ H fun v H1 => WE X b σ H1 fun u H2 => P v u H2 := two' ha hb tk R h fun x y v u M' H' l1 l2 _ _ => hf x y v u M' H' l1 l2
end
end GS

namespace GS
open PySem PySem.Spec PyProof.Rows L2

section
variable {n : Env'} {G : GE} {X : Cx} {W : WX} {M M0 : MM} {H H0 : Hp} {s : Sl} {σ : L2.St}

/-! ### lists of trees under another node -/
theorem cl_md {d : D} (h : d.cl = true) : d.md = .own ∨ d.md = .fz := by
  unfold D.cl at h
  cases e : d.md <;> rw [e] at h <;> first | exact .inl rfl | exact .inr rfl | cases h
theorem Reps.frz {p : Md} {L : List Addr} : ∀ {ds : List D} {vs : List V} {l : List Addr}, Reps n.c M H p ds vs l → ds.all D.cl = true → (∀ a ∈ l, a ∈ L) → (∀ a ∈ L, M a = some .own) → Reps n.c (frzM M L) H .fz (D.own2s .fz ds) vs []
  | [], _, _, h, _, _, _ => ⟨h.1, rfl⟩
  | d :: ds, vs, l, h, hc, hs, hL => by
    obtain ⟨v, vs', l1, l2, e, ck, r1, r2, hl⟩ := h
    rw [List.all_cons, Bool.and_eq_true] at hc
    refine ⟨v, vs', [], [], e, ?_, Rep.freeze L d r1 (fun b hb => hs b (by rw [hl]; simp [hb])) hL hc.1, Reps.frz r2 hc.2 (fun b hb => hs b (by rw [hl]; simp [hb])) hL, rfl⟩
    rw [own2_md]
    rcases cl_md hc.1 with e | e <;> rw [e] <;> rfl
theorem Reps.under {p : Md} : ∀ {ds : List D} {vs : List V} {l : List Addr}, Reps n.c M H .fz ds vs l → Reps n.c M H p ds vs l
  | [], _, _, h => h
  | d :: ds, vs, l, h => by
    obtain ⟨v, vs', l1, l2, e, ck, r1, r2, hl⟩ := h
    refine ⟨v, vs', l1, l2, e, ?_, r1, Reps.under r2, hl⟩
    have : d.md = .fz := by cases hm : d.md <;> rw [hm] at ck <;> simp [chOk] at ck
    rw [this]; cases p <;> rfl
theorem RepA.to : ∀ {ds : List D} {vs : List V} {l : List Addr}, RepA n.c M H ds vs l → ds.all D.cl = true → Reps n.c M H .own ds vs l
  | [], _, _, h, _ => h
  | d :: ds, vs, l, h, hc => by
    obtain ⟨v, vs', l1, l2, e, r1, r2, hl⟩ := h
    rw [List.all_cons, Bool.and_eq_true] at hc
    refine ⟨v, vs', l1, l2, e, ?_, r1, RepA.to r2 hc.2, hl⟩
    rcases cl_md hc.1 with e | e <;> rw [e] <;> rfl
theorem Reps.toA {p : Md} : ∀ {ds : List D} {vs : List V} {l : List Addr}, Reps n.c M H p ds vs l → RepA n.c M H ds vs l
  | [], _, _, h => h
  | d :: ds, vs, l, h => by
    obtain ⟨v, vs', l1, l2, e, ck, r1, r2, hl⟩ := h
    exact ⟨v, vs', l1, l2, e, r1, Reps.toA r2, hl⟩
theorem Reps.len {p : Md} {ds : List D} {vs : List V} {l : List Addr} (h : Reps n.c M H p ds vs l) : vs.length = ds.length := (Reps.toA h).len
theorem own2s_len (m : Md) (ds : List D) : (D.own2s m ds).length = ds.length := by rw [own2s_map]; simp
theorem Reps.get {p : Md} : ∀ {ds : List D} {vs : List V} {l : List Addr} {i : Nat} {d : D}, Reps n.c M H p ds vs l → ds[i]? = some d → ∃ v l', vs[i]? = some v ∧ Rep n.c M H d v l' ∧ l'.Sublist l ∧ chOk p d.md = true
  | [], _, _, _, _, _, e => by simp at e
  | x :: ds, vs, l, 0, d, h, e => by
    obtain ⟨v, vs', l1, l2, ev, ck, r1, r2, hl⟩ := h
    simp at e; subst e
    exact ⟨v, l1, by rw [ev]; rfl, r1, by rw [hl]; exact List.sublist_append_left _ _, ck⟩
  | x :: ds, vs, l, i + 1, d, h, e => by
    obtain ⟨v, vs', l1, l2, ev, ck, r1, r2, hl⟩ := h
    obtain ⟨w, l', e1, r, hs, ck'⟩ := Reps.get r2 (by simpa using e)
    exact ⟨w, l', by rw [ev]; simpa using e1, r, by rw [hl]; exact hs.trans (List.sublist_append_right _ _), ck'⟩
theorem Reps.drop {p : Md} : ∀ (k : Nat) {ds : List D} {vs : List V} {l : List Addr}, Reps n.c M H p ds vs l → ∃ l', Reps n.c M H p (ds.drop k) (vs.drop k) l' ∧ ∀ a ∈ l', a ∈ l
  | 0, _, _, l, h => ⟨l, h, fun _ z => z⟩
  | k + 1, [], vs, l, h => ⟨[], by rw [h.1]; exact ⟨by simp, rfl⟩, fun _ z => nomatch z⟩
  | k + 1, d :: ds, vs, l, h => by
    obtain ⟨v, vs', l1, l2, ev, ck, r1, r2, hl⟩ := h
    obtain ⟨l', r, hs⟩ := Reps.drop k r2
    exact ⟨l', by rw [ev]; exact r, fun a ha => by rw [hl]; simp [hs a ha]⟩
theorem Reps.take {p : Md} : ∀ (k : Nat) {ds : List D} {vs : List V} {l : List Addr}, Reps n.c M H p ds vs l → ∃ l', Reps n.c M H p (ds.take k) (vs.take k) l' ∧ ∀ a ∈ l', a ∈ l
  | 0, _, _, l, h => ⟨[], ⟨by simp, rfl⟩, fun _ z => nomatch z⟩
  | k + 1, [], vs, l, h => ⟨[], by rw [h.1]; exact ⟨by simp, rfl⟩, fun _ z => nomatch z⟩
  | k + 1, d :: ds, vs, l, h => by
    obtain ⟨v, vs', l1, l2, ev, ck, r1, r2, hl⟩ := h
    obtain ⟨l', r, hs⟩ := Reps.take k r2
    refine ⟨l1 ++ l', by rw [ev]; exact ⟨v, vs'.take k, l1, l', rfl, ck, r1, r, rfl⟩, fun a ha => ?_⟩
    rw [hl]
    rcases List.mem_append.mp ha with ha | ha
    · simp [ha]
    · simp [hs a ha]
theorem Reps.append {p : Md} : ∀ {ds es : List D} {vs us : List V} {l l' : List Addr}, Reps n.c M H p ds vs l → Reps n.c M H p es us l' → Reps n.c M H p (ds ++ es) (vs ++ us) (l ++ l')
  | [], _, _, _, _, _, h, h' => by rw [h.1, h.2]; exact h'
  | d :: ds, es, vs, us, l, l', h, h' => by
    obtain ⟨v, vs', l1, l2, ev, ck, r1, r2, hl⟩ := h
    exact ⟨v, vs' ++ us, l1, l2 ++ l', by rw [ev]; rfl, ck, r1, Reps.append r2 h', by rw [hl]; simp⟩
theorem st0_frz {L : List Addr} (st : St0 M0 H0 M H) (f : ∀ a ∈ L, H0 a = none) (hL : ∀ a ∈ L, H a ≠ none) : St0 M0 H0 (frzM M L) H := ⟨fun a ha => by
  obtain ⟨e1, e2⟩ := st.k a ha
  exact ⟨e1, (frzM_out fun z => ha (f a z)).trans e2⟩, fun a ha => by
  by_cases z : a ∈ L
  · exact hL a z
  · rw [frzM_out z] at ha; exact st.d a ha⟩
theorem Dom.frz {L : List Addr} (d : Dom M H) (hL : ∀ a ∈ L, M a = some .own) : Dom (frzM M L) H := fun a ha => by
  by_cases z : a ∈ L
  · exact d a (by rw [hL a z]; simp)
  · rw [frzM_out z] at ha; exact d a ha
/-- a new list of given trees (frozen) -/
theorem new_lst {p : Md} {ds : List D} {vs : List V} {l : List Addr} {Q : VK} (st : St0 M0 H0 M H) (r : Reps n.c M H p ds vs l) (hc : ds.all D.cl = true) (f : ∀ a ∈ l, H0 a = none) (h : PE1 n M0 H0 Q (.lst .own (D.own2s .fz ds))) (q : Addr) (hq : H q = none) : Q (.ref q) (upd H q (.lst vs)) := by
  have ow := Reps.owns ds r
  have r1 := Reps.frz (L := l) r hc (fun _ z => z) (fun a z => (ow a z).1)
  have d1 := Dom.frz st.d (fun a z => (ow a z).1) (L := l)
  have s1 := st0_frz st f (fun a z => (ow a z).2)
  refine h _ _ _ [q] (s1.trans (St0.lay (m := .own) (o := .lst vs) d1 hq)) ?_ (fun a ha => ?_) (by simp)
  · exact ⟨q, vs, [], rfl, .inl ⟨layM_same, upd_same⟩, (r1.step d1 (St0.lay d1 hq)).under, rfl⟩
  · have : a = q := by simpa using ha
    subst this
    exact st.fresh hq
theorem new_lstO {ds : List D} {vs : List V} {l : List Addr} {Q : VK} (st : St0 M0 H0 M H) (r : Reps n.c M H .own ds vs l) (f : ∀ a ∈ l, H0 a = none) (nd : l.Nodup) (h : PE1 n M0 H0 Q (.lst .own ds)) (q : Addr) (hq : H q = none) : Q (.ref q) (upd H q (.lst vs)) := by
  have ow := Reps.owns ds r
  refine h _ _ _ (q :: l) (st.trans (St0.lay (m := .own) (o := .lst vs) st.d hq)) ?_ (fun a ha => ?_) (List.nodup_cons.mpr ⟨fun z => absurd hq (ow q z).2, nd⟩)
  · exact ⟨q, vs, l, rfl, .inl ⟨layM_same, upd_same⟩, r.step st.d (St0.lay st.d hq), rfl⟩
  · rcases List.mem_cons.mp ha with e | ha
    · subst e; exact st.fresh hq
    · exact f a ha
theorem new_tupO {ds : List D} {vs : List V} {l : List Addr} {Q : VK} (st : St0 M0 H0 M H) (r : Reps n.c M H .own ds vs l) (f : ∀ a ∈ l, H0 a = none) (nd : l.Nodup) (h : PE1 n M0 H0 Q (.tup .own ds)) (q : Addr) (hq : H q = none) : Q (.ref q) (upd H q (.tup vs)) := by
  have ow := Reps.owns ds r
  refine h _ _ _ (q :: l) (st.trans (St0.lay (m := .own) (o := .tup vs) st.d hq)) ?_ (fun a ha => ?_) (List.nodup_cons.mpr ⟨fun z => absurd hq (ow q z).2, nd⟩)
  · exact ⟨q, vs, l, rfl, .inl ⟨layM_same, upd_same⟩, r.step st.d (St0.lay st.d hq), rfl⟩
  · rcases List.mem_cons.mp ha with e | ha
    · subst e; exact st.fresh hq
    · exact f a ha
/-- a scalar result -/
theorem PE1.sc {Q : VK} {d : D} {v : V} (h : PE1 n M0 H0 Q d) (st : St0 M0 H0 M H) (r : Rep n.c M H d v []) : Q v H := h v M H [] st r (fun _ z => nomatch z) .nil

/-! ### operators -/
theorem op_fdivB : OpR X (binaryOp .FloorDiv) (rI (fun _ j => j ≠ 0 ∧ j.natAbs.log2 < 9000) fun i j => .int (i.fdiv j)) := opI fun _ _ _ _ _ _ _ hc q => floordiv_int hc.1 q (.inl (PyProof.noPylong_of_log2 hc.2))
theorem op_mulB : OpR X (binaryOp .Mult) (rI (fun i j => mulOk i j = true) fun i j => .int (i * j)) := opI fun i j _ _ _ _ _ hc q => mul_int q (by
  have h1 := hc
  unfold mulOk at h1
  unfold IntMulOk
  intro z
  rw [z] at h1
  cases h1)
theorem op_smul : OpR X (binaryOp .Mult) (fun x y H Q => ∃ a n, x = V.str a ∧ y = V.int n ∧ smulOk a n = true ∧ Q (.str (PySem.Txt.mul a n)) H) := by
  intro pins s σ H x y v u Q I rx ry h
  obtain ⟨a, n, rfl, rfl, hok, q⟩ := h
  obtain ⟨t, rfl⟩ := rx
  obtain ⟨t', rfl⟩ := ry
  unfold smulOk at hok
  simp only [Bool.and_eq_true, decide_eq_true_eq] at hok
  obtain ⟨h0, h1, h2⟩ := hok
  have hn : (n.toNat : Int) = n := Int.toNat_of_nonneg h0
  refine SB.mul ⟨?_, fun hp _ => ?_, fun _ _ => ?_⟩ fun t' k => ⟨.str (PySem.Txt.mul a n), H, I.tok k, ⟨t', rfl⟩, q⟩
  · rw [decide_eq_false (by omega), decide_eq_false (by omega)]; rfl
  · intro hz
    have hm : (a.length : Int) * n ≤ 2 ^ 63 - 1 := by
      have : ((a.length * n.toNat : Nat) : Int) ≤ 1000000 := by omega
      rw [Int.natCast_mul, hn] at this
      omega
    have := (Int.le_ediv_iff_mul_le (show 0 < n by omega)).mpr hm
    omega
  · exact decide_eq_false (by unfold sizeLine; omega)
def bopOf : Bop → Operator
  | .add => .Add | .sub => .Sub | .mul => .Mult | .fdiv => .FloorDiv | .mod => .Mod | .pow => .Pow | .cat => .Add
theorem op_val {o : Bop} {x y : D} {v u : V} {l1 l2 : List Addr} {Q : VK} {E : Nat → List D → Prop} (st : St0 M0 H0 M H) (rx : Rep n.c M H x v l1) (ry : Rep n.c M H y u l2) (f : ∀ a ∈ l1 ++ l2, H0 a = none)
    (h : PR (vBop o x y) (PE1 n M0 H0 Q) E) : WOp X (binaryOp (bopOf o)) v u H Q := by
  unfold vBop at h
  split at h
  · obtain ⟨rfl, _⟩ := rx; obtain ⟨rfl, _⟩ := ry
    exact ⟨_, op_add, _, _, rfl, rfl, PE1.sc (d := .int _) h st ⟨rfl, rfl⟩⟩
  · obtain ⟨rfl, _⟩ := rx; obtain ⟨rfl, _⟩ := ry
    exact ⟨_, op_sub, _, _, rfl, rfl, PE1.sc (d := .int _) h st ⟨rfl, rfl⟩⟩
  · obtain ⟨rfl, _⟩ := rx; obtain ⟨rfl, _⟩ := ry
    obtain ⟨h1, h⟩ := h.guard
    exact ⟨_, op_mulB, _, _, rfl, rfl, h1, PE1.sc (d := .int _) h st ⟨rfl, rfl⟩⟩
  · obtain ⟨rfl, _⟩ := rx; obtain ⟨rfl, _⟩ := ry
    obtain ⟨h1, h⟩ := h.guard
    unfold divOk at h1
    rw [Bool.and_eq_true, decide_eq_true_eq, decide_eq_true_eq] at h1
    exact ⟨_, op_fdivB, _, _, rfl, rfl, h1, PE1.sc (d := .int _) h st ⟨rfl, rfl⟩⟩
  · obtain ⟨rfl, _⟩ := rx; obtain ⟨rfl, _⟩ := ry
    obtain ⟨h1, h⟩ := h.guard
    exact ⟨_, op_modN, _, _, rfl, rfl, of_decide_eq_true h1, PE1.sc (d := .int _) h st ⟨rfl, rfl⟩⟩
  · obtain ⟨rfl, _⟩ := rx; obtain ⟨rfl, _⟩ := ry
    obtain ⟨h1, h⟩ := h.guard
    rw [Bool.and_eq_true, Bool.and_eq_true, decide_eq_true_eq, decide_eq_true_eq, decide_eq_true_eq] at h1
    exact ⟨_, op_pow, _, _, rfl, rfl, h1, PE1.sc (d := .int _) h st ⟨rfl, rfl⟩⟩
  · obtain ⟨rfl, _⟩ := rx; obtain ⟨rfl, _⟩ := ry
    obtain ⟨h1, h⟩ := h.guard
    exact ⟨_, op_add_str, _, _, rfl, rfl, of_decide_eq_true h1, PE1.sc (d := .str _) h st ⟨rfl, rfl⟩⟩
  · obtain ⟨rfl, _⟩ := rx; obtain ⟨rfl, _⟩ := ry
    obtain ⟨h1, h⟩ := h.guard
    exact ⟨_, op_smul, _, _, rfl, rfl, h1, PE1.sc (d := .str _) h st ⟨rfl, rfl⟩⟩
  · next m xs m' ys =>
    obtain ⟨h1, h⟩ := h.guard
    simp only [Bool.and_eq_true, decide_eq_true_eq, Bool.not_eq_true', decide_eq_false_iff_not] at h1
    obtain ⟨⟨⟨hm, hm'⟩, hl⟩, c1, c2⟩ := h1
    obtain ⟨a, vs, l', rfl, n1, r1, e1⟩ := rx
    obtain ⟨b, us, l'', rfl, n2, r2, e2⟩ := ry
    rcases n1 with n1 | n1
    · rcases n2 with n2 | n2
      · have k1 : ∀ z ∈ l', z ∈ l1 := fun z hz => by rw [e1]; exact mem_consO.mpr (.inr hz)
        have k2 : ∀ z ∈ l'', z ∈ l2 := fun z hz => by rw [e2]; exact mem_consO.mpr (.inr hz)
        refine ⟨_, op_cat, a, b, vs, us, rfl, rfl, n1.2, n2.2, by rw [r1.len, r2.len]; exact hl, fun q hq => ?_⟩
        have ow1 := Reps.owns _ r1
        have ow2 := Reps.owns _ r2
        have fr1 := Reps.frz (L := l' ++ l'') r1 c1 (fun z hz => by simp [hz]) (fun z hz => (List.mem_append.mp hz).elim (fun hz => (ow1 z hz).1) fun hz => (ow2 z hz).1)
        have fr2 := Reps.frz (L := l' ++ l'') r2 c2 (fun z hz => by simp [hz]) (fun z hz => (List.mem_append.mp hz).elim (fun hz => (ow1 z hz).1) fun hz => (ow2 z hz).1)
        have own : ∀ z ∈ l' ++ l'', M z = some .own ∧ H z ≠ none := fun z hz => (List.mem_append.mp hz).elim (ow1 z) (ow2 z)
        have s1 := st0_frz (L := l' ++ l'') st (fun z hz => f z (by
          rcases List.mem_append.mp hz with hz | hz
          · simp [k1 z hz]
          · simp [k2 z hz])) (fun z hz => (own z hz).2)
        exact new_lstO s1 ((fr1.append fr2).under) (fun z hz => by simp at hz) (by simp) h q hq
      · exact absurd n2.1 hm'
    · exact absurd n1.1 hm
  · exact False.elim h
theorem se_op {o : Bop} {a b : Expr} {ta tb : Tm} {op : Operator} {pos : Pos} (he : bopOf o = op) (ha : SE n G X a ta) (hb : SE n G X b tb) : SE n G X (.BinOp a op b pos) (.op o ta tb) := by
  intro W tk M s σ H Q R h
  subst he
  unfold evalE at h
  refine ⟨_, pe_op wop we we, ?_⟩
  exact two ha hb tk R h fun x y v u M' H' l1 l2 st rx ry f nd hp => op_val st rx ry f hp
theorem se_neg {a : Expr} {ta : Tm} {pos : Pos} (ha : SE n G X a ta) : SE n G X (.UnaryOp .USub a pos) (.neg ta) := by
  intro W tk M s σ H Q R h
  unfold evalE at h
  refine ⟨_, pe_un un_neg we, ?_⟩
  refine ha W tk M s σ H _ R (h.bind.imp (fun x ex hx v M1 H1 l1 s1 r1 f1 n1 => ?_) fun _ _ q => q)
  unfold vNeg at hx
  split at hx
  · obtain ⟨rfl, _⟩ := r1
    exact ⟨_, rfl, PE1.sc (d := .int _) hx s1 ⟨rfl, rfl⟩⟩
  · exact False.elim hx
end
end GS

namespace GS
open PySem PySem.Spec PyProof.Rows L2

section
variable {n : Env'} {G : GE} {X : Cx} {W : WX} {M M0 : MM} {H H0 : Hp} {s : Sl} {σ : L2.St}

/-! ### == -/
theorem KL.sqt {a : Addr} {vs : List V} (h : KL n.c.K "tuple" a vs) (hK : n.c.K = X.K) : SqT X.K H a vs := by
  obtain ⟨o, its, k, h1, h2, _, h3, h4, h5⟩ := h
  exact .inr ⟨o, its, k, by rw [← hK]; exact h1, h2, h3, h4, h5⟩
theorem GL.sql {a : Addr} {vs : List V} (h : GL n.c.K M H a vs) (hK : n.c.K = X.K) : SqL X.K H a vs := by
  rcases h with h | ⟨_, o, h⟩
  · obtain ⟨o, its, k, h1, h2, hd, h3, h4, h5⟩ := h
    exact .inr ⟨o, its, k, by rw [← hK]; exact h1, h2, hd rfl, h3, h4, h5⟩
  · exact .inl (.inr ⟨o, h⟩)
theorem lst_sql {m : Md} {a : Addr} {vs : List V} (hK : n.c.K = X.K) (h : NdX M H m a (.lst vs) ∨ (m = .br ∧ GL n.c.K M H a vs)) : SqL X.K H a vs := h.elim (fun h => SqL.of h.2) fun h => h.2.sql hK
theorem tup_sqt {m : Md} {a : Addr} {vs : List V} (hK : n.c.K = X.K) (h : NdX M H m a (.tup vs) ∨ (m = .br ∧ KL n.c.K "tuple" a vs)) : SqT X.K H a vs := h.elim (fun h => SqT.of h.2) fun h => KL.sqt h.2 hK
mutual
theorem rep_dp (hK : n.c.K = X.K) : ∀ (d : D) {v : V} {l : List Addr} {p : PyData}, Rep n.c M H d v l → d.py = some p → Dp X.K H v p
  | .non, _, _, _, r, e => by rw [r.1]; cases e; exact .non
  | .bl b, _, _, _, r, e => by rw [r.1]; cases e; exact .bl b
  | .int i, _, _, _, r, e => by rw [r.1]; cases e; exact .int i
  | .str x, _, _, _, r, e => by rw [r.1]; cases e; exact .str x
  | .lst m ds, _, _, p, r, e => by
    obtain ⟨a, vs, l', rfl, nd, r1, _⟩ := r
    unfold D.py at e
    cases h : D.pys ds with
    | none => rw [h] at e; cases e
    | some ps =>
      rw [h] at e; cases e
      exact .lst (lst_sql hK nd) (reps_dp hK ds r1 h)
  | .tup m ds, _, _, p, r, e => by
    obtain ⟨a, vs, l', rfl, nd, r1, _⟩ := r
    unfold D.py at e
    cases h : D.pys ds with
    | none => rw [h] at e; cases e
    | some ps =>
      rw [h] at e; cases e
      exact .tup (tup_sqt hK nd) (reps_dp hK ds r1 h)
  | .dic _ _ _, _, _, _, _, e => by unfold D.py at e; cases e
  | .ins _ _ _ _, _, _, _, _, e => by unfold D.py at e; cases e
theorem reps_dp (hK : n.c.K = X.K) : ∀ (ds : List D) {p : Md} {vs : List V} {l : List Addr} {ps : List PyData}, Reps n.c M H p ds vs l → D.pys ds = some ps → DpAll X.K H vs ps
  | [], _, _, _, _, r, e => by rw [r.1]; cases e; exact .nil
  | d :: ds, _, _, _, ps, r, e => by
    obtain ⟨v, vs', l1, l2, rfl, ck, r1, r2, _⟩ := r
    unfold D.pys at e
    cases h : D.py d with
    | none => rw [h] at e; cases e
    | some q =>
      cases h2 : D.pys ds with
      | none => rw [h, h2] at e; cases e
      | some qs =>
        rw [h, h2] at e; cases e
        exact .cons (rep_dp hK d r1 h) (reps_dp hK ds r2 h2)
end
theorem decV_int {i j : Int} : decide (V.int i = V.int j) = decide (i = j) := by simp
theorem decV_str {i j : Str} : decide (V.str i = V.str j) = decide (i = j) := by simp
theorem decV_bl {i j : Bool} : decide (V.bl i = V.bl j) = decide (i = j) := by simp
/-- == (neg: !=) -/
theorem eq_val (F : FX n X) {x y : D} {v u : V} {l1 l2 : List Addr} {Q : VK} {K : Bool → Prop} {E : Nat → List D → Prop} (rx : Rep n.c M H x v l1) (ry : Rep n.c M H y u l2)
    (h : PR (vEq x y) K E) (neg : Bool) (hk : ∀ b, K b → Q (.bl (neg ^^ b)) H) : WOp X (compareOp (if neg then .NotEq else .Eq)) v u H Q := by
  unfold vEq at h
  split at h
  · obtain ⟨rfl, _⟩ := rx; obtain ⟨rfl, _⟩ := ry
    have q := hk _ h
    cases neg
    · exact ⟨_, op_eq, rfl, by rw [decV_int]; simpa using q⟩
    · exact ⟨_, op_ne, rfl, by rw [decV_int]; simpa using q⟩
  · obtain ⟨rfl, _⟩ := rx; obtain ⟨rfl, _⟩ := ry
    have q := hk _ h
    cases neg
    · exact ⟨_, op_eq, rfl, by rw [decV_str]; simpa using q⟩
    · exact ⟨_, op_ne, rfl, by rw [decV_str]; simpa using q⟩
  · obtain ⟨rfl, _⟩ := rx; obtain ⟨rfl, _⟩ := ry
    have q := hk _ h
    cases neg
    · exact ⟨_, op_eq, rfl, by rw [decV_bl]; simpa using q⟩
    · exact ⟨_, op_ne, rfl, by rw [decV_bl]; simpa using q⟩
  · split at h
    · next a b ea eb =>
      obtain ⟨h1, h⟩ := h.guard
      rw [Bool.and_eq_true] at h1
      have q := hk _ h
      cases neg
      · exact ⟨_, op_eqD F.hu, a, b, rep_dp F.K x rx ea, rep_dp F.K y ry eb, h1.1, h1.2, by simpa using q⟩
      · exact ⟨_, op_neD F.hu, a, b, rep_dp F.K x rx ea, rep_dp F.K y ry eb, h1.1, h1.2, by simpa using q⟩
    · exact False.elim h

/-! ### in -/
theorem rep_v {d : D} {v a : V} {l : List Addr} (r : Rep n.c M H d v l) (e : d.v = some a) : v = a ∧ flatV a = true := by
  cases d with
  | non => cases e; exact ⟨r.1, rfl⟩
  | bl b => cases e; exact ⟨r.1, rfl⟩
  | int i => cases e; exact ⟨r.1, rfl⟩
  | str x => cases e; exact ⟨r.1, rfl⟩
  | _ => cases e
theorem reps_v {p : Md} : ∀ {ds : List D} {vs as : List V} {l : List Addr}, Reps n.c M H p ds vs l → allV ds = some as → vs = as ∧ as.all flatV = true
  | [], _, _, _, r, e => by cases e; exact ⟨r.1, rfl⟩
  | d :: ds, vs, as, _, r, e => by
    obtain ⟨v, vs', l1, l2, rfl, ck, r1, r2, _⟩ := r
    unfold allV at e
    cases h : D.v d with
    | none => rw [h] at e; cases e
    | some q =>
      cases h2 : allV ds with
      | none => rw [h, h2] at e; cases e
      | some qs =>
        rw [h, h2] at e; cases e
        obtain ⟨e1, f1⟩ := rep_v r1 h
        obtain ⟨e2, f2⟩ := reps_v r2 h2
        exact ⟨by rw [e1, e2], by rw [List.all_cons, f1, f2]; rfl⟩
theorem rep_key {d : D} {v : V} {l : List Addr} {k : Key} (r : Rep n.c M H d v l) (e : d.key = some k) : v = kV k := by
  cases d with
  | int i => cases e; exact r.1
  | str x => cases e; exact r.1
  | _ => cases e
theorem op_inD (hu : X.A.units + 1 < cLine) : OpR X (compareOp .In) (fun x y H Q => ∃ a o, y = .ref a ∧ DGet H a x o ∧ Q (.bl o.isSome) H) := by
  intro pins s σ H x y v u Q I rx ry ⟨a, o, e, g, q⟩
  subst e
  obtain rfl : u = Value.ref a := ry
  exact d_in hu I g rx fun s3 I3 => ⟨.bl o.isSome, H, I3, rfl, q⟩
theorem op_notInD (hu : X.A.units + 1 < cLine) : OpR X (compareOp .NotIn) (fun x y H Q => ∃ a o, y = .ref a ∧ DGet H a x o ∧ Q (.bl (!o.isSome)) H) := by
  intro pins s σ H x y v u Q I rx ry ⟨a, o, e, g, q⟩
  subst e
  obtain rfl : u = Value.ref a := ry
  exact d_notIn hu I g rx fun s3 I3 => ⟨.bl (!o.isSome), H, I3, rfl, q⟩
theorem key_there (k : Key) (kvs : List (Key × V)) : ((kvs.map (·.1)).any fun q => decide (q = k)) = (valV kvs k).isSome := by
  rw [← valV_any, List.any_map]; rfl
theorem FX.hu1 (F : FX n X) : X.A.units + 1 < cLine := by have := F.hu; omega
theorem in_val (F : FX n X) {x y : D} {v u : V} {l1 l2 : List Addr} {Q : VK} {K : Bool → Prop} {E : Nat → List D → Prop} (rx : Rep n.c M H x v l1) (ry : Rep n.c M H y u l2)
    (h : PR (vIn x y) K E) (neg : Bool) (hk : ∀ b, K b → Q (.bl (neg ^^ b)) H) : WOp X (compareOp (if neg then .NotIn else .In)) v u H Q := by
  unfold vIn at h
  split at h
  · obtain ⟨b, e, h⟩ := h.ofOpt
    obtain ⟨a, ea, e⟩ := Option.bind_eq_some_iff.mp e
    obtain ⟨as, es, e⟩ := Option.map_eq_some_iff.mp e
    subst e
    obtain ⟨p, vs, l', rfl, nd, r1, _⟩ := ry
    obtain ⟨e1, f1⟩ := rep_v rx ea
    obtain ⟨e2, f2⟩ := reps_v r1 es
    have q := hk _ h
    cases neg
    · exact ⟨_, op_in_seq, p, vs, rfl, .inl (lst_sql F.K nd), by rw [e1]; exact f1, by rw [e2]; exact f2, by rw [e1, e2]; simpa using q⟩
    · exact ⟨_, op_notIn_seq, p, vs, rfl, .inl (lst_sql F.K nd), by rw [e1]; exact f1, by rw [e2]; exact f2, by rw [e1, e2]; simpa using q⟩
  · obtain ⟨b, e, h⟩ := h.ofOpt
    obtain ⟨a, ea, e⟩ := Option.bind_eq_some_iff.mp e
    obtain ⟨as, es, e⟩ := Option.map_eq_some_iff.mp e
    subst e
    obtain ⟨p, vs, l', rfl, nd, r1, _⟩ := ry
    obtain ⟨e1, f1⟩ := rep_v rx ea
    obtain ⟨e2, f2⟩ := reps_v r1 es
    have q := hk _ h
    cases neg
    · exact ⟨_, op_in_seq, p, vs, rfl, .inr (tup_sqt F.K nd), by rw [e1]; exact f1, by rw [e2]; exact f2, by rw [e1, e2]; simpa using q⟩
    · exact ⟨_, op_notIn_seq, p, vs, rfl, .inr (tup_sqt F.K nd), by rw [e1]; exact f1, by rw [e2]; exact f2, by rw [e1, e2]; simpa using q⟩
  · obtain ⟨b, e, h⟩ := h.ofOpt
    obtain ⟨k, ek, e⟩ := Option.map_eq_some_iff.mp e
    subst e
    obtain ⟨p, kvs, l', rfl, nd, ks, r1, _⟩ := ry
    have e1 := rep_key rx ek
    have q := hk _ h
    rw [← ks, key_there] at q
    cases neg
    · exact ⟨_, op_inD F.hu1, p, _, rfl, .inl ⟨kvs, k, nd.2.1, e1, rfl⟩, by simpa using q⟩
    · exact ⟨_, op_notInD F.hu1, p, _, rfl, .inl ⟨kvs, k, nd.2.1, e1, rfl⟩, by simpa using q⟩
  · split at h
    · obtain ⟨rfl, _⟩ := rx; obtain ⟨rfl, _⟩ := ry
      have q := hk _ h
      cases neg
      · exact ⟨_, op_in_str, _, _, rfl, rfl, by simpa using q⟩
      · exact ⟨_, op_notin_str, _, _, rfl, rfl, by simpa using q⟩
    · exact False.elim h
  · exact False.elim h
def copOf : Cop → CmpOp
  | .eq => .Eq | .ne => .NotEq | .lt => .Lt | .le => .LtE | .gt => .Gt | .ge => .GtE | .isN => .Is | .notN => .IsNot | .isin => .In | .notin => .NotIn
theorem rep_non {d : D} {v : V} {l : List Addr} (r : Rep n.c M H d v l) : decide (v = .non) = d.isN := by
  cases d with
  | non => obtain ⟨rfl, _⟩ := r; rfl
  | bl b => obtain ⟨rfl, _⟩ := r; rfl
  | int i => obtain ⟨rfl, _⟩ := r; rfl
  | str x => obtain ⟨rfl, _⟩ := r; rfl
  | tup m ds => obtain ⟨a, _, _, rfl, _⟩ := r; rfl
  | lst m ds => obtain ⟨a, _, _, rfl, _⟩ := r; rfl
  | dic m ks ds => obtain ⟨a, _, _, rfl, _⟩ := r; rfl
  | ins m k fs ds => obtain ⟨a, _, _, _, rfl, _⟩ := r; rfl
theorem cop_val (F : FX n X) {o : Cop} {x y : D} {v u : V} {l1 l2 : List Addr} {Q : VK} {K : Bool → Prop} {E : Nat → List D → Prop} (rx : Rep n.c M H x v l1) (ry : Rep n.c M H y u l2)
    (h : PR (vCop o x y) K E) (hk : ∀ b, K b → Q (.bl b) H) : WOp X (compareOp (copOf o)) v u H Q := by
  unfold vCop at h
  split at h
  · exact eq_val F rx ry h false fun b q => by simpa using hk b q
  · exact eq_val F rx ry h.bind true fun b q => by simpa using hk (!b) q
  · obtain ⟨rfl, _⟩ := rx; obtain ⟨rfl, _⟩ := ry
    exact ⟨_, op_lt, _, _, rfl, rfl, hk _ h⟩
  · obtain ⟨rfl, _⟩ := rx; obtain ⟨rfl, _⟩ := ry
    exact ⟨_, op_le, _, _, rfl, rfl, hk _ h⟩
  · obtain ⟨rfl, _⟩ := rx; obtain ⟨rfl, _⟩ := ry
    exact ⟨_, op_gt, _, _, rfl, rfl, hk _ h⟩
  · obtain ⟨rfl, _⟩ := rx; obtain ⟨rfl, _⟩ := ry
    exact ⟨_, op_ge, _, _, rfl, rfl, hk _ h⟩
  · obtain ⟨rfl, _⟩ := ry
    exact ⟨_, op_isN, rfl, by rw [rep_non rx]; exact hk _ h⟩
  · obtain ⟨rfl, _⟩ := ry
    refine ⟨_, op_notN, rfl, ?_⟩
    rw [rep_non rx]
    exact hk _ h
  · exact in_val F rx ry h false fun b q => by simpa using hk b q
  · exact in_val F rx ry h.bind true fun b q => by simpa using hk (!b) q
  · exact False.elim h
theorem se_cmp (F : FX n X) {o : Cop} {a b : Expr} {ta tb : Tm} {op : CmpOp} {pos : Pos} (he : copOf o = op) (hm : behindInMarks op b = false) (ha : SE n G X a ta) (hb : SE n G X b tb) : SE n G X (.Compare a [op] [b] pos) (.cmp o ta tb) := by
  intro W tk M s σ H Q R h
  subst he
  unfold evalE at h
  refine ⟨_, pe_cmpR wop we we hm, ?_⟩
  exact two ha hb tk R h fun x y v u M' H' l1 l2 st rx ry f nd hp => cop_val F rx ry hp.bind fun b q => PE1.sc (d := .bl b) q st ⟨rfl, rfl⟩
theorem st_cmp (F : FX n X) {o : Cop} {a b : Expr} {ta tb : Tm} {op : CmpOp} {pos : Pos} (he : copOf o = op) (hm : behindInMarks op b = false) (ha : SE n G X a ta) (hb : SE n G X b tb) : ST n G X (.Compare a [op] [b] pos) (.cmp o ta tb) := by
  intro W tk M s σ H Q R h
  subst he
  refine ⟨_, pt_cmpR wop we we hm, ?_⟩
  have h' : PR ((evalE G ta s).bind fun x => (evalE G tb s).bind fun y => vCop o x y) (PT1 M H Q) (PX n M H fun cls d H' => W cls d σ H') := by
    unfold evalE at h
    revert h
    cases evalE G ta s <;> first | exact id | skip
    cases evalE G tb s <;> first | exact id | skip
    simp only [Res.bind_ok]
    cases vCop o _ _ <;> exact id
  exact two ha hb tk R h' fun x y v u M' H' l1 l2 st rx ry f nd hp => cop_val F rx ry hp fun b q => ⟨b, rfl, q M' H' st⟩

/-! ### and, or, not, if -/
theorem se_not {a : Expr} {ta : Tm} {pos : Pos} (ha : SE n G X a ta) : SE n G X (.UnaryOp .Not a pos) (.not ta) := by
  intro W tk M s σ H Q R h
  unfold evalE at h
  refine ⟨_, pe_not we, ?_⟩
  refine ha W tk M s σ H _ R (h.bind.imp (fun x ex hx v M1 H1 l1 s1 r1 f1 n1 => ?_) fun _ _ q => q)
  unfold vBl at hx
  split at hx
  · obtain ⟨rfl, _⟩ := r1
    exact ⟨_, rfl, PE1.sc (d := .bl _) hx s1 ⟨rfl, rfl⟩⟩
  · exact False.elim hx
/-- an expression whose truth is asked plainly -/
def plainT : Expr → Bool
  | .UnaryOp .Not _ _ => false
  | .BoolOp _ _ _ => false
  | .IfExp _ _ _ _ => false
  | .Compare _ _ _ _ => false
  | _ => true
theorem plainT_ok {e : Expr} (h : plainT e = true) (env : Env) : ∀ whole, isTrue e env whole = (do let v ← whole; standAt e.pos; holding [v] (truthy v)) := by
  intro whole
  cases e with
  | UnaryOp op a pos => cases op <;> first | (cases h; done) | rfl
  | BoolOp _ _ _ => cases h
  | IfExp _ _ _ _ => cases h
  | Compare _ _ _ _ => cases h
  | _ => rfl
theorem isE {α β : Type} : ∀ {xs : List α} {ys : List β}, xs.length = ys.length → xs.isEmpty = ys.isEmpty
  | [], [], _ => rfl
  | _ :: _, _ :: _, _ => rfl
  | [], _ :: _, h => by simp at h
  | _ :: _, [], h => by simp at h
theorem pt_truR {e : Expr} {te : TE} {r : V → Hp → (Bool → Hp → Prop) → Prop} (hr : TruR X r) (he : PE X e te) (hp : plainT e = true) : PT X e (fun σ H Q => te σ H fun x H' => r x H' Q) :=
  ⟨fun pins s σ H Q I h => isTrue_plain (thn (he.run pins s σ H _ I h) fun v s1 ⟨x, H1, I1, r1, q1⟩ => hr pins s1 σ H1 x v Q I1 r1 q1) (plainT_ok hp X.env _)⟩
theorem tru_dict : TruR X (fun x H Q => ∃ a kvs, x = .ref a ∧ Rd H a (.dK kvs) ∧ Q (!kvs.isEmpty) H) := by
  intro pins s σ H x v Q I rx ⟨a, kvs, e, rd, q⟩
  subst e
  obtain rfl : v = Value.ref a := rx
  exact d_truth I rd fun s' I' => ⟨H, I', q⟩
theorem tru_val (F : FX n X) {x : D} {v : V} {l : List Addr} {Q : Bool → Hp → Prop} {E : Nat → List D → Prop} (st : St0 M0 H0 M H) (r : Rep n.c M H x v l) (hx : PR (vTru x) (PT1 M0 H0 Q) E) : WTru X v H Q := by
  unfold vTru at hx
  split at hx
  · obtain ⟨rfl, _⟩ := r; exact ⟨_, tru_ok, _, rfl, hx M H st⟩
  · obtain ⟨rfl, _⟩ := r; exact ⟨_, tru_ok, _, rfl, hx M H st⟩
  · obtain ⟨rfl, _⟩ := r; exact ⟨_, tru_ok, _, rfl, hx M H st⟩
  · obtain ⟨a, vs, l', rfl, nd, r1, _⟩ := r
    refine ⟨_, tru_ok, _, .inl ⟨vs, lst_sql F.K nd, rfl⟩, ?_⟩
    rw [isE r1.len]; exact hx M H st
  · obtain ⟨a, vs, l', rfl, nd, r1, _⟩ := r
    refine ⟨_, tru_ok, _, .inr (.inl ⟨vs, tup_sqt F.K nd, rfl⟩), ?_⟩
    rw [isE r1.len]; exact hx M H st
  · obtain ⟨a, kvs, l', rfl, nd, ks, r1, _⟩ := r
    refine ⟨_, tru_dict, a, kvs, rfl, nd.2.1, ?_⟩
    have e : kvs.isEmpty = (kvs.map (·.1)).isEmpty := isE (by simp)
    rw [e, ks]; exact hx M H st
  · next y =>
    obtain ⟨rfl, _⟩ := r
    obtain ⟨h1, hx⟩ := hx.guard
    refine ⟨_, tru_ok, _, ⟨of_decide_eq_true h1, rfl⟩, ?_⟩
    have q := hx M H st
    have e : ((y.length : Int) != 0) = (y.length != 0) := by rw [Bool.eq_iff_iff]; simp
    rw [e]; exact q
  · exact False.elim hx
theorem st_plain (F : FX n X) {e : Expr} {t : Tm} (hp : plainT e = true) (he : SE n G X e t) : ST n G X e t := by
  intro W tk M s σ H Q R h
  refine ⟨_, pt_truR wtru we hp, ?_⟩
  exact he W tk M s σ H _ R (h.bind.imp (fun x ex hx v M1 H1 l1 s1 r1 f1 n1 => tru_val F s1 r1 hx) fun _ _ q => q)
theorem st_not {a : Expr} {ta : Tm} {pos : Pos} (ha : ST n G X a ta) : ST n G X (.UnaryOp .Not a pos) (.not ta) := by
  intro W tk M s σ H Q R h
  refine ⟨_, pt_not wt, ?_⟩
  refine ha W tk M s σ H _ R ?_
  unfold evalE at h
  revert h
  cases evalE G ta s with
  | ok d => cases d <;> first | exact fun h => False.elim h | exact id
  | ex _ _ => exact id
  | stuck => exact id
end
end GS

namespace GS
open PySem PySem.Spec PyProof.Rows L2

inductive All2 {α β : Type} (R : α → β → Prop) : List α → List β → Prop
  | nil : All2 R [] []
  | cons {a : α} {b : β} {as : List α} {bs : List β} : R a b → All2 R as bs → All2 R (a :: as) (b :: bs)

section
variable {n : Env'} {G : GE} {X : Cx} {W : WX} {M M0 : MM} {H H0 : Hp} {s : Sl} {σ : L2.St}

/-- an expression of a fit form: no star, no set display, no bare slice -/
def okE : Expr → Bool
  | .Starred _ _ => false
  | .Set _ _ _ => false
  | .Slice _ _ _ _ => false
  | _ => true
theorem okE_star {e : Expr} (h : okE e = true) (es : List Expr) (env : Env) : starEach (e :: es) env = (false, eval e env) :: starEach es env := by
  cases e <;> first | (cases h; done) | rfl
theorem okE_in {e : Expr} (h : okE e = true) (op : CmpOp) : behindInMarks op e = false := by
  cases e <;> first | (cases h; done) | rfl
theorem okE_ix {e : Expr} (h : okE e = true) : PlainIx e := fun o i => by
  cases e <;> first | (cases h; done) | rfl
theorem okE_fold {e : Expr} (h : okE e = true) (env : Env) (x : Value) : foldedSetIterable e env x = pure x := by
  cases e <;> first | (cases h; done) | rfl

/-! ### lists of expressions -/
theorem sa_of {es : List Expr} {ts : List Tm} (h : All2 (fun e t => okE e = true ∧ SE n G X e t) es ts) : SA n G X es ts := by
  induction h with
  | nil => exact fun W tk M s σ H Q R h => ⟨_, pa_nil, by unfold evalL at h; exact h [] M H [] (St0.refl R.dom) ⟨rfl, rfl⟩ (fun _ z => nomatch z) .nil⟩
  | @cons e t es ts he _ ih =>
    intro W tk M s σ H Q R h
    unfold evalL at h
    refine ⟨_, pa_cons we wa (okE_star he.1 _ _), ?_⟩
    refine he.2 W tk M s σ H _ R (h.bind.imp (fun x ex hx v M1 H1 l1 s1 r1 f1 n1 => ?_) fun _ _ q => q)
    refine ih W tk M1 s σ H1 _ (R.step s1) (hx.bind.imp (fun ys ey hy us M2 H2 l2 s2 r2 f2 n2 => ?_) fun _ _ q => q.step s1)
    refine hy (v :: us) M2 H2 (l1 ++ l2) (s1.trans s2) ⟨v, us, l1, l2, rfl, r1.step s1.d s2, r2, rfl⟩ (fun q hq => ?_) ?_
    · rcases List.mem_append.mp hq with hq | hq
      · exact f1 q hq
      · exact s1.fresh (f2 q hq)
    · refine List.nodup_append.mpr ⟨n1, n2, fun q hq r hr e => ?_⟩
      subst e
      exact absurd (f2 q hr) (Rep.owns x r1 q hq).2
theorem se_and {es : List Expr} {ts : List Tm} {pos : Pos} (h : All2 (fun e t => SE n G X e t) es ts) (h0 : es ≠ []) : SE n G X (.BoolOp .And es pos) (.and ts) := by
  induction h with
  | nil => exact absurd rfl h0
  | @cons e t es ts he hr ih =>
    intro W tk M s σ H Q R h
    unfold evalE evalAnd at h
    cases hr with
    | nil =>
      refine ⟨_, pe_one we, ?_⟩
      refine he W tk M s σ H _ R (h.bind.bind.imp (fun x ex hx v M1 H1 l1 s1 r1 f1 n1 => ?_) fun _ _ q => q)
      cases x with
      | bl b =>
        obtain ⟨rfl, _⟩ := r1
        cases b <;> exact PE1.sc (d := .bl _) hx s1 ⟨rfl, rfl⟩
      | _ => exact False.elim hx
    | @cons e' t' es' ts' he' hr' =>
      refine ⟨_, pe_and we we, ?_⟩
      refine he W tk M s σ H _ R (h.bind.bind.imp (fun x ex hx v M1 H1 l1 s1 r1 f1 n1 => ?_) fun _ _ q => q)
      cases x with
      | bl b =>
        obtain ⟨rfl, _⟩ := r1
        refine ⟨b, rfl, ?_⟩
        cases b with
        | false => exact iteF (PE1.sc (d := .bl _) hx s1 ⟨rfl, rfl⟩)
        | true =>
          refine iteT (ih (by simp) W tk M1 s σ H1 Q (R.step s1) ?_)
          have hx' : PR ((evalAnd G (t' :: ts') s).bind fun b => .ok (.bl b)) (PE1 n M H Q) (PX n M H fun cls d H' => W cls d σ H') := PR.unbind hx
          have e1 : evalE G (.and (t' :: ts')) s = (evalAnd G (t' :: ts') s).bind fun b => .ok (.bl b) := by rw [evalE]
          rw [e1]
          exact hx'.imp (fun d _ q v' M' H' l' st' r' f' n' => q v' M' H' l' (s1.trans st') r' (fun a ha => s1.fresh (f' a ha)) n') fun _ _ q => q.step s1
      | _ => exact False.elim hx
theorem se_or {es : List Expr} {ts : List Tm} {pos : Pos} (h : All2 (fun e t => SE n G X e t) es ts) (h0 : es ≠ []) : SE n G X (.BoolOp .Or es pos) (.or ts) := by
  induction h with
  | nil => exact absurd rfl h0
  | @cons e t es ts he hr ih =>
    intro W tk M s σ H Q R h
    unfold evalE evalOr at h
    cases hr with
    | nil =>
      refine ⟨_, pe_one we, ?_⟩
      refine he W tk M s σ H _ R (h.bind.bind.imp (fun x ex hx v M1 H1 l1 s1 r1 f1 n1 => ?_) fun _ _ q => q)
      cases x with
      | bl b =>
        obtain ⟨rfl, _⟩ := r1
        cases b <;> exact PE1.sc (d := .bl _) hx s1 ⟨rfl, rfl⟩
      | _ => exact False.elim hx
    | @cons e' t' es' ts' he' hr' =>
      refine ⟨_, pe_or we we, ?_⟩
      refine he W tk M s σ H _ R (h.bind.bind.imp (fun x ex hx v M1 H1 l1 s1 r1 f1 n1 => ?_) fun _ _ q => q)
      cases x with
      | bl b =>
        obtain ⟨rfl, _⟩ := r1
        refine ⟨b, rfl, ?_⟩
        cases b with
        | true => exact iteT (PE1.sc (d := .bl _) hx s1 ⟨rfl, rfl⟩)
        | false =>
          refine iteF (ih (by simp) W tk M1 s σ H1 Q (R.step s1) ?_)
          have hx' : PR ((evalOr G (t' :: ts') s).bind fun b => .ok (.bl b)) (PE1 n M H Q) (PX n M H fun cls d H' => W cls d σ H') := PR.unbind hx
          have e1 : evalE G (.or (t' :: ts')) s = (evalOr G (t' :: ts') s).bind fun b => .ok (.bl b) := by rw [evalE]
          rw [e1]
          exact hx'.imp (fun d _ q v' M' H' l' st' r' f' n' => q v' M' H' l' (s1.trans st') r' (fun a ha => s1.fresh (f' a ha)) n') fun _ _ q => q.step s1
      | _ => exact False.elim hx
/-- a test by parts -/
theorem sp_and {es : List Expr} {ts : List Tm} {pos : Pos} (h : All2 (fun e t => ST n G X e t) es ts) (h0 : es ≠ []) : ∀ (W : WX), Takes X W → ∀ M s σ H Q, RelS n.c M s σ H →
    PR (evalAnd G ts s) (PT1 M H Q) (PX n M H fun cls d H' => W cls d σ H') → WP X (.BoolOp .And es pos) σ H Q := by
  induction h with
  | nil => exact absurd rfl h0
  | @cons e t es ts he hr ih =>
    intro W tk M s σ H Q R h
    unfold evalAnd at h
    have go : ∀ Q' : Bool → Hp → Prop, (∀ b M1 H1, St0 M H M1 H1 → PR (if b = true then evalAnd G ts s else .ok false) (PT1 M H Q) (PX n M H fun cls d H' => W cls d σ H') → Q' b H1) → WT X e σ H Q' := fun Q' hq => by
      refine he W tk M s σ H Q' R ?_
      revert h
      cases evalE G t s with
      | ok d =>
        cases d with
        | bl b => exact fun h M1 H1 s1 => hq b M1 H1 s1 h
        | _ => exact fun h => False.elim h
      | ex c ds => exact fun h => h
      | stuck => exact fun h => h
    cases hr with
    | nil =>
      refine ⟨_, pw_and1 wt, go _ fun b M1 H1 s1 q => ?_⟩
      cases b <;> exact q M1 H1 s1
    | @cons e' t' es' ts' he' hr' =>
      refine ⟨_, pw_and wt wp_, go _ fun b M1 H1 s1 q => ?_⟩
      cases b with
      | false => exact iteF (q M1 H1 s1)
      | true =>
        refine iteT (ih (by simp) W tk M1 s σ H1 Q (R.step s1) ?_)
        have q' : PR (evalAnd G (t' :: ts') s) (PT1 M H Q) (PX n M H fun cls d H' => W cls d σ H') := q
        exact q'.imp (fun d _ q M' H' st' => q M' H' (s1.trans st')) fun _ _ q => q.step s1
theorem sp_or {es : List Expr} {ts : List Tm} {pos : Pos} (h : All2 (fun e t => ST n G X e t) es ts) (h0 : es ≠ []) : ∀ (W : WX), Takes X W → ∀ M s σ H Q, RelS n.c M s σ H →
    PR (evalOr G ts s) (PT1 M H Q) (PX n M H fun cls d H' => W cls d σ H') → WP X (.BoolOp .Or es pos) σ H Q := by
  induction h with
  | nil => exact absurd rfl h0
  | @cons e t es ts he hr ih =>
    intro W tk M s σ H Q R h
    unfold evalOr at h
    have go : ∀ Q' : Bool → Hp → Prop, (∀ b M1 H1, St0 M H M1 H1 → PR (if b = true then .ok true else evalOr G ts s) (PT1 M H Q) (PX n M H fun cls d H' => W cls d σ H') → Q' b H1) → WT X e σ H Q' := fun Q' hq => by
      refine he W tk M s σ H Q' R ?_
      revert h
      cases evalE G t s with
      | ok d =>
        cases d with
        | bl b => exact fun h M1 H1 s1 => hq b M1 H1 s1 h
        | _ => exact fun h => False.elim h
      | ex c ds => exact fun h => h
      | stuck => exact fun h => h
    cases hr with
    | nil =>
      refine ⟨_, pw_or1 wt, go _ fun b M1 H1 s1 q => ?_⟩
      cases b <;> exact q M1 H1 s1
    | @cons e' t' es' ts' he' hr' =>
      refine ⟨_, pw_or wt wp_, go _ fun b M1 H1 s1 q => ?_⟩
      cases b with
      | true => exact iteT (q M1 H1 s1)
      | false =>
        refine iteF (ih (by simp) W tk M1 s σ H1 Q (R.step s1) ?_)
        have q' : PR (evalOr G (t' :: ts') s) (PT1 M H Q) (PX n M H fun cls d H' => W cls d σ H') := q
        exact q'.imp (fun d _ q M' H' st' => q M' H' (s1.trans st')) fun _ _ q => q.step s1
theorem bl_tru {r : Res Bool} : (r.bind fun b => (.ok (.bl b) : Res D)).bind vTru = r := by cases r <;> rfl
theorem st_and {es : List Expr} {ts : List Tm} {pos : Pos} (h : All2 (fun e t => ST n G X e t) es ts) (h0 : es ≠ []) : ST n G X (.BoolOp .And es pos) (.and ts) := fun W tk M s σ H Q R h' =>
  ⟨_, PW.pt wp_, sp_and h h0 W tk M s σ H Q R (by rw [evalE, bl_tru] at h'; exact h')⟩
theorem st_or {es : List Expr} {ts : List Tm} {pos : Pos} (h : All2 (fun e t => ST n G X e t) es ts) (h0 : es ≠ []) : ST n G X (.BoolOp .Or es pos) (.or ts) := fun W tk M s σ H Q R h' =>
  ⟨_, PW.pt wp_, sp_or h h0 W tk M s σ H Q R (by rw [evalE, bl_tru] at h'; exact h')⟩
theorem se_ife {c a b : Expr} {tc ta tb : Tm} {pos : Pos} (hc : ST n G X c tc) (ha : SE n G X a ta) (hb : SE n G X b tb) : SE n G X (.IfExp c a b pos) (.ife tc ta tb) := by
  intro W tk M s σ H Q R h
  unfold evalE at h
  refine ⟨_, pe_ifExp wt we we, ?_⟩
  refine hc W tk M s σ H _ R ?_
  have key : ∀ r : Bool, ∀ M1 H1, St0 M H M1 H1 → PR (if r = true then evalE G ta s else evalE G tb s) (PE1 n M H Q) (PX n M H fun cls d H' => W cls d σ H') → if r = true then WE X a σ H1 Q else WE X b σ H1 Q := by
    intro r M1 H1 s1 q
    have up : ∀ {t : Tm}, PR (evalE G t s) (PE1 n M H Q) (PX n M H fun cls d H' => W cls d σ H') → PR (evalE G t s) (PE1 n M1 H1 Q) (PX n M1 H1 fun cls d H' => W cls d σ H') := fun q =>
      q.imp (fun d _ q v' M' H' l' st' r' f' n' => q v' M' H' l' (s1.trans st') r' (fun a ha => s1.fresh (f' a ha)) n') fun _ _ q => q.step s1
    cases r with
    | true => exact iteT (ha W tk M1 s σ H1 Q (R.step s1) (up q))
    | false => exact iteF (hb W tk M1 s σ H1 Q (R.step s1) (up q))
  revert h
  cases evalE G tc s with
  | ok d =>
    simp only [Res.bind_ok]
    cases vTru d with
    | ok r => exact fun h M1 H1 s1 => key r M1 H1 s1 h
    | ex c ds => exact fun h => h
    | stuck => exact fun h => h
  | ex c ds => exact fun h => h
  | stuck => exact fun h => h
end
end GS

namespace GS
open PySem PySem.Spec PyProof.Rows L2

/-! ## what a call promises -/
structure StS (M : MM) (H : Hp) (M' : MM) (H' : Hp) : Prop where
  k : ∀ a, H a ≠ none → M a ≠ some .own → H' a = H a ∧ M' a = M a
  o : ∀ a, M a = some .own → M' a = some .own ∨ M' a = some .fz
  d : Dom M' H'
structure StSX (M : MM) (H : Hp) (M' : MM) (H' : Hp) : Prop where
  k : ∀ a, H a ≠ none → M a ≠ some .own → KeepX H H' a ∧ M' a = M a
  o : ∀ a, M a = some .own → M' a = some .own ∨ M' a = some .fz
  d : Dom M' H'
def RepF (c : RC) (M : MM) (H : Hp) : Sl → List V → List Addr → Prop
  | [], _, l => l = []
  | none :: fs, _ :: vs, l => RepF c M H fs vs l
  | some d :: fs, v :: vs, l => ∃ l1 l2, Rep c M H d v l1 ∧ RepF c M H fs vs l2 ∧ l = l1 ++ l2
  | _ :: _, [], l => l = []
def PostRO (n : Env') (M : MM) (H : Hp) (vs : List V) (r : RO) (Q : VK) (E : XK) : Prop := match r with
  | .ret d fins => ∀ v M' H' lr lf, d.cl = true → StS M H M' H' → Rep n.c M' H' d v lr → RepF n.c M' H' fins vs lf → (lr ++ lf).Nodup → Q v H'
  | .ex e xs fins => ∀ dx M' H' lf, xs.all D.cl = true → StSX M H M' H' → XRep n.c n.xf M' H' e xs dx → RepF n.c M' H' fins vs lf → lf.Nodup → E (.ref (n.c.ca e)) dx H'
  | .stuck => False
def SpC (n : Env') (r : RO) (as : List D) (vs : List V) (H : Hp) (Q : VK) (E : XK) : Prop :=
  ∃ M l, RepA n.c M H as vs l ∧ (∀ d ∈ as, d.md ≠ .vw) ∧ l.Nodup ∧ Dom M H ∧ PostRO n M H vs r Q E

/-- C.__init__ as it is read off the class -/
structure BInit (K : PySem.W.Frag) (C f : Addr) : Prop where
  rd : PySem.W.readsIn K C (.type "type") = true
  ga : PySem.W.specialIn K (.ref C) "__getattribute__" = some (some (.builtin "type.__getattribute__"))
  at_ : PySem.W.findCls K (.ref C) (.type "type") "__init__" = some (.val (.ref f))
  kp : PySem.W.keepIn K (.ref f) = true
/-- what an own exception class must say, so that isinstance and fields can be asked -/
structure ExK (K : PySem.W.Frag) (C : Addr) : Prop where
  ga : PySem.W.findIn K (.ref C) "__getattribute__" = some (some (.builtin "BaseException.__getattribute__"))
  gg : PySem.W.findIn K (.ref C) "__getattr__" = some none
  ex : PySem.W.subIn K (.ref C) (.type "BaseException") = some true
  hd : PySem.W.hasDictIn K C = true
  ty : PySem.W.typeIn K (.ref C) = some (.type "type")
  kp : PySem.W.keepIn K (.ref C) = true
/-- a class of exceptions that is made with a text -/
def ExT (K : PySem.W.Frag) (C : Addr) : Prop := PySem.W.excIn K C [.type "ValueError", .type "Exception", .type "BaseException", .type "object"] "ValueError.__new__" = true
/-- what the __init__ of an exception with fields keeps -/
def spX (K : PySem.W.Frag) (C : Addr) (fs : List Str) : Sp := fun vs H Q _ => vs.length = fs.length + 1 ∧ ∃ (a : Addr) (ws : List V), vs = .ref a :: ws ∧ H a = some (exo a C none) ∧
  ∀ d, H d = none → d ≠ a → Q .non (upd (upd H d (exd d (fs.zip ws).reverse)) a (exo a C (some d)))
structure FC (n : Env') (G : GE) (X : Cx) : Prop extends FX n X where
  call : X.calm = true → ∀ f as, G.call f as ≠ .stuck → ∃ (k : Nat) (fd : FuncData) (ps : List Str) (dvs : List V) (ds : List Value) (sp : Sp), FnOk X.prog X.w X.K X.mg X.base (L2.CX X.prog X.w) k (n.fa f) fd ps sp ∧ Room k X.A ∧
    PySem.W.keepIn X.K (.ref (n.fa f)) = true ∧ Vals dvs ds ∧ Binds X.K fd ps ds ∧ ∀ vs H Q E, SpC n (G.call f as) as vs H Q E → sp (vs ++ dvs) H Q E
  make : X.calm = true → ∀ f as, G.make f as ≠ .stuck → ∃ (k : Nat) (fd : FuncData) (ps : List Str) (dvs : List V) (ds : List Value) (sp : Sp), FnOk X.prog X.w X.K X.mg X.base (L2.CX X.prog X.w) k (n.fa f) fd ps sp ∧ Room (k + 1) X.A ∧
    Vals dvs ds ∧ Binds X.K fd ps ds ∧ ∀ vs H Q E, SpC n (G.make f as) as vs H Q E → sp (vs ++ dvs) H Q E
  xcE : ∀ k, n.c.xc k = xcB G.sub k
  xfE : ∀ c, G.xf c ≠ [] → n.xf c = G.xf c
  /-- an except clause, asked -/
  xm : ∀ e c, xcB G.sub e = true → xcB G.sub c = true → PySem.W.exmOne X.K (.ref (n.c.ca e)) (.ref (n.c.ca c)) = some (decide (c ∈ G.sub e))
  xk : ∀ c, xcB G.sub c = true → ExK X.K (n.c.ca c) ∧ PySem.W.kitOne X.K (.ref (n.c.ca c)) (.type "ValueError") = some true
  xt : ∀ c, xcB G.sub c = true → n.xf c = [] → ExT X.K (n.c.ca c)
  xi : X.calm = true → ∀ c, xcB G.sub c = true → G.xf c ≠ [] → OexC X.K (n.c.ca c) ∧ ∃ (k : Nat) (fI : Addr) (fd : FuncData) (ps : List Str), PySem.W.findIn X.K (.ref (n.c.ca c)) "__init__" = some (some (.ref fI)) ∧ PySem.W.typeIn X.K (.ref fI) = some (.type "function") ∧
    FnOk X.prog X.w X.K X.mg X.base (L2.CX X.prog X.w) k fI fd ps (spX X.K (n.c.ca c) ((n.xf c).map n.c.an)) ∧ Room (k + 1) X.A ∧ Binds X.K fd ps []
  nxm : ∀ k m f, G.meth k m = some f → n.c.xc k = false
  nxi : ∀ k f, G.init k = some f → n.c.xc k = false
  cls : ∀ k m f, G.meth k m = some f → Cls X.K (n.c.ca k) ∧ Meth X.K (n.c.ca k) (n.c.an m) (n.fa f)
  mki : ∀ k f, G.init k = some f → Mk X.K (n.c.ca k) (n.fa f)
  bas : ∀ k f, G.init k = some f → BInit X.K (n.c.ca k) (n.fa f)
  fok : ∀ k f, G.fok k f = true → if n.c.xc k = true then PySem.W.findIn X.K (.ref (n.c.ca k)) (n.c.an f) = some none else Cls X.K (n.c.ca k) ∧ NoAttr X.K (n.c.ca k) (n.c.an f)
  fnm : ∀ f, n.okf f = true → X.mg (n.fn f) = some (.ref (n.fa f)) ∧ PySem.W.keepIn X.K (.ref (n.fa f)) = true
  cnm : ∀ k, n.okc k = true → X.mg (n.cn k) = some (.ref (n.c.ca k)) ∧ PySem.W.keepIn X.K (.ref (n.c.ca k)) = true
  free : ∀ x ∈ (["len", "abs", "min", "max", "any", "all", "str", "int", "list", "tuple", "dict", "sorted", "isinstance", "bool", "range", "enumerate", "zip", "reversed", "set", "ValueError"] : List Str), X.mg x = none
  ity : ∀ k, G.sub k ≠ [] → (n.c.xc k = false → Cls X.K (n.c.ca k)) ∧ PySem.W.findIn X.K (.ref (n.c.ca k)) "__class__" = some (some (.builtin "object.__class__")) ∧ PySem.W.mroIn X.K (n.c.ca k) (.type "object") = some true ∧
    (∀ T ∈ ["int", "bool", "str", "list", "tuple", "dict"], PySem.W.kitOne X.K (.ref (n.c.ca k)) (.type T) = some false) ∧ ∀ c, n.okc c = true → PySem.W.kitOne X.K (.ref (n.c.ca k)) (.ref (n.c.ca c)) = some (decide (c ∈ G.sub k))
  itk : (∃ k, G.sub k ≠ []) → PySem.W.specialIn X.K (.builtin "object.__class__") "__get__" = some (some (.builtin "getset_descriptor.__get__")) ∧ PySem.W.takesIn X.K (.builtin "object.__class__") = some true
  glb : ∀ g, n.gn g ≠ "" → ∃ u v, X.mg (n.gn g) = some u ∧ RelV v u ∧ (G.glob g).v = some v
  itb : ∀ T ∈ ["NoneType", "bool", "int", "str", "list", "tuple", "dict"], ∀ c, n.okc c = true → PySem.W.kitOne X.K (.type T) (.ref (n.c.ca c)) = some false
  inj : ∀ f g, n.c.an f = n.c.an g → f = g

section
variable {n : Env'} {G : GE} {X : Cx} {W : WX} {M M0 : MM} {H H0 : Hp} {s : Sl} {σ : L2.St}

/-! ### running a def from here -/
theorem run_fnW {k : Nat} {f : Addr} {fd : FuncData} {ps : List Str} {sp : Sp} {dvs : List V} {ds : List Value} {pins : List (Addr × Obj)} {sh : Shared} {Q : VK} {us : List Value} {vs : List V} (tk : Takes X W)
    (F : FnOk X.prog X.w X.K X.mg X.base (L2.CX X.prog X.w) k f fd ps sp) (hr : Room k X.A) (hb : Binds X.K fd ps ds) (hd : Vals dvs ds) (I : Inv X pins σ H sh) (r : Vals vs us) (h : sp (vs ++ dvs) H Q (fun cls d H' => W cls d σ H')) :
    wpAny (model X.prog X.w) X.A (call (.ref f) us) (EP X pins σ Q) X.xe sh := by
  have r2 : Vals (vs ++ dvs) (us ++ ds) := r.append hd
  have hl : (us ++ ds).length = ps.length := r2.length.symm.trans (F.len _ _ _ _ h)
  refine wpAny_call (codeAny_mono (F.run X.A X.stack sh H ⟨us, []⟩ (us ++ ds) (vs ++ dvs) Q (fun cls d H' => W cls d σ H') hr I.env0 (hb sh us I.kIn hl) r2 h) fun r s' hq => ?_)
  cases r with
  | error e => exact tk e s' (XE.of_call I (fun _ _ _ z => z) hq)
  | ok fl => cases fl <;> first | exact I.after hq | exact False.elim hq
def tCallW (W : WX) (sp : Sp) (dvs : List V) (t : TA) : TE := fun σ H Q => t σ H fun vs H1 => sp (vs ++ dvs) H1 Q fun cls d H' => W cls d σ H'
theorem noStar {pos : Pos} {env : Env} : ∀ {es : List Expr}, (∀ e ∈ es, okE e = true) → (backTo pos (starEach es env)).any (·.1) = false
  | [], _ => rfl
  | e :: es, h => by
    rw [okE_star (h e (by simp))]
    unfold backTo
    rw [List.map_cons, List.any_cons]
    exact noStar (es := es) fun x hx => h x (by simp [hx])
theorem pe_callW {k : Nat} {f : Addr} {fd : FuncData} {ps : List Str} {sp : Sp} {dvs : List V} {ds : List Value} {x : Str} {p pos : Pos} {e : Expr} {es : List Expr} {t : TA} (tk : Takes X W)
    (F : FnOk X.prog X.w X.K X.mg X.base (L2.CX X.prog X.w) k f fd ps sp) (hr : Room k X.A) (hg : Gl X x) (hm : X.mg x = some (.ref f)) (hk : PySem.W.keepIn X.K (.ref f) = true) (hb : Binds X.K fd ps ds) (hd : Vals dvs ds)
    (ha : PA X (e :: es) t) (ho : ∀ q ∈ e :: es, okE q = true) (hdb : (x == ("__debug__" : Str)) = false) : PE X (.Call (.Name x p) (e :: es) [] pos) (tCallW W sp dvs t) := by
  refine ⟨fun pins sh σ H Q I h => wpAny_Call_Name_kw (ld_glob I hg hm ?_ hdb)⟩
  refine PySem.W.callWith_K (h₀ := X.base) I.ok.mod.kin hk (thn (ha.run pos pins sh σ H _ I h) fun us s1 ⟨vs, H1, I1, r, q⟩ => ⟨I1.kIn, run_fnW tk F hr hb hd I1 r q⟩) (okE_star (ho e (by simp)) _ _) (noStar fun x hx => ho x (by simp [hx]))
/-- o.m(..) -/
def tMethW (W : WX) (C : Addr) (m : Str) (sp : Sp) (dvs : List V) (ta : TE) (t : TA) : TE := fun σ H Q => ta σ H fun x H1 => ∃ a dx fs, x = .ref a ∧ H1 a = some (.ins C dx fs) ∧ fs.lookup m = none ∧
  t σ H1 fun vs H2 => sp (.ref a :: (vs ++ dvs)) H2 Q fun cls d H' => W cls d σ H'
/-- the tree of a method's call where nothing but the object is asked -/
def methForm (o : Expr) : Bool := match o with
  | .Call (.Name _ _) [] [] _ => false
  | _ => okE o
theorem base_of {o : Expr} (h : methForm o = true) (m : Str) (env : Env) (whole : Sem Value) : attributeBase o m env whole = whole := by
  unfold attributeBase
  split
  · cases h
  · rfl
theorem starLess {pos : Pos} {env : Env} : ∀ {es : List Expr}, (∀ e ∈ es, okE e = true) → (backTo pos (starEach es env)).all (fun x => !x.1) = true
  | [], _ => rfl
  | e :: es, h => by
    rw [okE_star (h e (by simp))]
    unfold backTo
    rw [List.map_cons, List.all_cons]
    exact starLess (es := es) fun x hx => h x (by simp [hx])
theorem ev_meth {o : Expr} {m : Str} {apos pos : Pos} {es : List Expr} {env : Env} (hf : methForm o = true) (ho : ∀ q ∈ es, okE q = true) (hl : es.length < 29) (hln : (apos.endLine == pos.line) = true) :
    eval (.Call (.Attribute o m apos) es [] pos) env = (do
      let ov ← eval o env
      standAt apos.atName
      let (f, first) ← holding [ov] (getMethod ov m (plainOf o env))
      callWith pos f first (backTo pos (starEach es env)) (backToKw pos (keywordEach [] env))) := by
  have e1 := base_of hf m env (eval o env)
  have few : methodCallForm (es.length + ([] : List Keyword).length) (backTo pos (starEach es env)) (backToKw pos (keywordEach [] env)) = true := by
    have e0 : backToKw pos (keywordEach [] env) = [] := rfl
    unfold methodCallForm
    rw [starLess ho, e0]
    simp
    omega
  have e2 : ∀ ov, methodCall o m apos pos env ov (es.length + ([] : List Keyword).length) (backTo pos (starEach es env)) (backToKw pos (keywordEach [] env)) = _ := fun ov => mcall_line few hln
  rw [arm_eval_Call, e1]
  simp only [e2]
theorem pe_methW {C f : Addr} {k : Nat} {fd : FuncData} {ps : List Str} {sp : Sp} {dvs : List V} {ds : List Value} {m : Str} {apos pos : Pos} {o e : Expr} {es : List Expr} {ta : TE} {t : TA} (tk : Takes X W)
    (he : PE X o ta) (c : Cls X.K C) (hm : Meth X.K C m f) (F : FnOk X.prog X.w X.K X.mg X.base (L2.CX X.prog X.w) k f fd ps sp) (hr : Room k X.A) (hb : Binds X.K fd ps ds) (hd : Vals dvs ds) (ha : PA X (e :: es) t)
    (ho : ∀ q ∈ e :: es, okE q = true) (hl : (e :: es).length < 29) (hln : (apos.endLine == pos.line) = true) (hf : methForm o = true) : PE X (.Call (.Attribute o m apos) (e :: es) [] pos) (tMethW W C m sp dvs ta t) := by
  refine ⟨fun pins sh σ H Q I h => ?_⟩
  refine PySem.W.methodCall_KW (pl := plainOf o X.env) (thn (he.run pins sh σ H _ I h) fun u s1 ⟨x, H1, I1, rx, a, dx, fs, ex, ea, l, q⟩ => ?_) (ev_meth hf ho hl hln)
  subst ex
  obtain rfl : u = Value.ref a := rx
  refine getmeth_ok I1 ea c hm l ?_
  exact PySem.W.callWith_K (first := [.ref a]) (h₀ := X.base) I.ok.mod.kin hm.kp (thn (ha.run pos pins s1 σ H1 _ I1 q) fun us s2 ⟨vs, H2, I2, r, q2⟩ => ⟨I2.kIn, run_fnW (us := .ref a :: us) (vs := .ref a :: vs) tk F hr hb hd I2 (.cons rfl r) q2⟩) (okE_star (ho e (by simp)) _ _) (noStar fun x hx => ho x (by simp [hx]))
theorem pe_meth0W {C f : Addr} {k : Nat} {fd : FuncData} {ps : List Str} {sp : Sp} {dvs : List V} {ds : List Value} {m : Str} {apos pos : Pos} {o : Expr} {ta : TE} (tk : Takes X W)
    (he : PE X o ta) (c : Cls X.K C) (hm : Meth X.K C m f) (F : FnOk X.prog X.w X.K X.mg X.base (L2.CX X.prog X.w) k f fd ps sp) (hr : Room k X.A) (hb : Binds X.K fd ps ds) (hd : Vals dvs ds)
    (hln : (apos.endLine == pos.line) = true) (hf : methForm o = true) : PE X (.Call (.Attribute o m apos) [] [] pos) (tMethW W C m sp dvs ta tNil) := by
  refine ⟨fun pins sh σ H Q I h => ?_⟩
  refine PySem.W.methodCall_KW (pl := plainOf o X.env) (thn (he.run pins sh σ H _ I h) fun u s1 ⟨x, H1, I1, rx, a, dx, fs, ex, ea, l, q⟩ => ?_) (ev_meth hf (fun _ z => nomatch z) (by simp) hln)
  subst ex
  obtain rfl : u = Value.ref a := rx
  refine getmeth_ok I1 ea c hm l ?_
  exact PySem.W.callWith_K0 (first := [.ref a]) I1.kIn hm.kp (run_fnW (us := [.ref a]) (vs := [.ref a]) tk F hr hb hd I1 (.cons rfl .nil) q)
/-- C(..) -/
def tMakeW (W : WX) (C : Addr) (sp : Sp) (dvs : List V) (t : TA) : TE := fun σ H Q => t σ H fun vs H1 => ∀ x dx, H1 x = none → H1 dx = none → dx ≠ x →
  sp (.ref x :: (vs ++ dvs)) (upd (upd H1 dx (.own x)) x (.ins C dx [])) (fun v H2 => v = .non ∧ Q (.ref x) H2) fun cls d H' => W cls d σ H'
theorem run_makeW {C f : Addr} {k : Nat} {fd : FuncData} {ps : List Str} {sp : Sp} {dvs : List V} {ds : List Value} {pins : List (Addr × Obj)} {sh : Shared} {Q : VK} {us : List Value} {vs : List V} (tk : Takes X W) (Mk_ : Mk X.K C f)
    (F : FnOk X.prog X.w X.K X.mg X.base (L2.CX X.prog X.w) k f fd ps sp) (hr : Room (k + 1) X.A) (hb : Binds X.K fd ps ds) (hd : Vals dvs ds) (I : Inv X pins σ H sh) (r : Vals vs us)
    (h : ∀ x dx, H x = none → H dx = none → dx ≠ x → sp (.ref x :: (vs ++ dvs)) (upd (upd H dx (.own x)) x (.ins C dx [])) (fun v H2 => v = .non ∧ Q (.ref x) H2) fun cls d H' => W cls d σ H') :
    wpAny (model X.prog X.w) X.A (call (.ref C) us) (EP X pins σ Q) X.xe sh := by
  have n0 : sh.heap.objs.size ≠ sh.heap.objs.size + 1 := Nat.ne_of_lt (Nat.lt_succ_self _)
  have hq := h (sh.heap.objs.size + 1) sh.heap.objs.size (I.hok.fresh (Nat.le_succ _)) (I.hok.fresh (Nat.le_refl _)) n0
  have J := Inv.made (C := C) I
  have r2 : Vals (V.ref (sh.heap.objs.size + 1) :: (vs ++ dvs)) (Value.ref (sh.heap.objs.size + 1) :: (us ++ ds)) := .cons rfl (r.append hd)
  have hl : ((Value.ref (sh.heap.objs.size + 1) :: us) ++ ds).length = ps.length := r2.length.symm.trans (F.len _ _ _ _ hq)
  refine wpAny_call (make_map (f := f) I.kIn Mk_.makes Mk_.init (beq_iff_eq.mp Mk_.fn) (codeAny_mono (F.run _ X.stack _ _ ⟨_, []⟩ _ _ _ _ (hr.make C us []) (J.env0.make C us []) (hb _ _ J.kIn hl) r2 hq) fun o s' ho => ?_))
  cases o with
  | error e => exact tk e s' (XE.of_call J (fun _ _ _ z => z) ho)
  | ok fl =>
    cases fl with
    | ret u =>
      obtain ⟨v, H', I3, rv, ev, q3⟩ := J.after ho
      subst ev
      exact ⟨rv, ⟨V.ref (sh.heap.objs.size + 1), H', I3, rfl, q3⟩⟩
    | _ => exact False.elim ho
theorem pe_makeW {C f : Addr} {k : Nat} {fd : FuncData} {ps : List Str} {sp : Sp} {dvs : List V} {ds : List Value} {x : Str} {p pos : Pos} {e : Expr} {es : List Expr} {t : TA} (tk : Takes X W) (Mk_ : Mk X.K C f)
    (F : FnOk X.prog X.w X.K X.mg X.base (L2.CX X.prog X.w) k f fd ps sp) (hr : Room (k + 1) X.A) (hg : Gl X x) (hm : X.mg x = some (.ref C)) (hb : Binds X.K fd ps ds) (hd : Vals dvs ds)
    (ha : PA X (e :: es) t) (ho : ∀ q ∈ e :: es, okE q = true) (hdb : (x == ("__debug__" : Str)) = false) : PE X (.Call (.Name x p) (e :: es) [] pos) (tMakeW W C sp dvs t) := by
  refine ⟨fun pins sh σ H Q I h => wpAny_Call_Name_kw (ld_glob I hg hm ?_ hdb)⟩
  exact PySem.W.callWith_K (h₀ := X.base) I.ok.mod.kin Mk_.kp (thn (ha.run pos pins sh σ H _ I h) fun us s1 ⟨vs, H1, I1, r, q⟩ => ⟨I1.kIn, run_makeW tk Mk_ F hr hb hd I1 r q⟩) (okE_star (ho e (by simp)) _ _) (noStar fun x hx => ho x (by simp [hx]))
theorem pe_make0W {C f : Addr} {k : Nat} {fd : FuncData} {ps : List Str} {sp : Sp} {dvs : List V} {ds : List Value} {x : Str} {p pos : Pos} (tk : Takes X W) (Mk_ : Mk X.K C f)
    (F : FnOk X.prog X.w X.K X.mg X.base (L2.CX X.prog X.w) k f fd ps sp) (hr : Room (k + 1) X.A) (hg : Gl X x) (hm : X.mg x = some (.ref C)) (hb : Binds X.K fd ps ds) (hd : Vals dvs ds)
    (hdb : (x == ("__debug__" : Str)) = false) : PE X (.Call (.Name x p) [] [] pos) (tMakeW W C sp dvs tNil) := by
  refine ⟨fun pins sh σ H Q I h => wpAny_Call_Name_kw (ld_glob I hg hm ?_ hdb)⟩
  exact PySem.W.callWith_K0 I.kIn Mk_.kp (run_makeW (us := []) (vs := []) tk Mk_ F hr hb hd I .nil h)
end
end GS

namespace GS
open PySem PySem.Spec PyProof.Rows L2

section
variable {n : Env'} {G : GE} {X : Cx} {W : WX} {M M0 M1 : MM} {H H0 H1 : Hp} {s : Sl} {σ : L2.St}

/-! ### arguments -/
theorem arg_rep {L : List Addr} (hL : ∀ a ∈ L, M a = some .own) {d : D} {v : V} {l : List Addr} (r : Rep n.c M H d v l) (hs : ∀ a ∈ l, a ∈ L) : Rep n.c (lendM (frzM M L)) H d.arg v [] := by
  by_cases ho : d.md = .own
  · have e : d.arg = d.own2 .fz := by unfold D.arg; rw [ho]
    have hm : (d.own2 .fz).md = .fz := by rw [own2_md, if_pos ho]
    have q := Rep.freeze L d r hs hL (by unfold D.cl; rw [ho])
    have q2 := Rep.lend _ q (by rw [hm]; simp)
    rw [e, ← brd_id (d := d.own2 .fz) (by rw [hm]; simp)]
    exact q2
  · have hl : l = [] := Rep.noOwn d r ho
    subst hl
    have q := Rep.lend _ (Rep.frzAny L hL d r ho) ho
    have e : d.arg = d.brd := by
      unfold D.arg
      cases hm : d.md with
      | own => exact absurd hm ho
      | vw => rfl
      | fz => exact (brd_id (by rw [hm]; simp)).symm
      | br => exact (brd_id (by rw [hm]; simp)).symm
    rw [e]
    exact q
theorem args_rep {L : List Addr} (hL : ∀ a ∈ L, M a = some .own) : ∀ {ds : List D} {vs : List V} {l : List Addr}, RepA n.c M H ds vs l → (∀ a ∈ l, a ∈ L) → RepA n.c (lendM (frzM M L)) H (ds.map D.arg) vs []
  | [], _, _, h, _ => ⟨h.1, rfl⟩
  | d :: ds, vs, l, ⟨v, vs', l1, l2, e, r1, r2, hl⟩, hs =>
    ⟨v, vs', [], [], e, arg_rep hL r1 (fun b hb => hs b (by rw [hl]; simp [hb])), args_rep hL r2 (fun b hb => hs b (by rw [hl]; simp [hb])), rfl⟩
theorem arg_md (d : D) : d.arg.md ≠ .vw := by
  unfold D.arg
  cases hm : d.md with
  | own => show (d.own2 .fz).md ≠ _; rw [own2_md, if_pos hm]; simp
  | vw => show d.brd.md ≠ _; rw [brd_md, if_pos hm]; simp
  | fz => show d.md ≠ _; rw [hm]; simp
  | br => show d.md ≠ _; rw [hm]; simp
theorem args_md (ds : List D) : ∀ d ∈ ds.map D.arg, d.md ≠ .vw := fun d hd => by
  obtain ⟨x, _, e⟩ := List.mem_map.mp hd
  rw [← e]; exact arg_md x
theorem lend_frz_own {L : List Addr} {a : Addr} : lendM (frzM M L) a ≠ some .own := fun e => by
  by_cases h : frzM M L a = some .own
  · rw [lendM_own h] at e; cases e
  · rw [lendM_ne h] at e; exact h e
/-- the modes behind a call: what was own is own again -/
def backM (M : MM) (L : List Addr) (M' : MM) : MM := fun a => if M a = some .own ∧ a ∉ L then some .own else M' a
theorem Dom.lend {L : List Addr} (d : Dom M H) (hL : ∀ a ∈ L, M a = some .own) : Dom (lendM (frzM M L)) H := fun a ha => Dom.frz d hL a (lendM_none ha)
theorem back_st {L : List Addr} {M' : MM} {H' : Hp} (d : Dom M H) (hL : ∀ a ∈ L, M a = some .own) (k : ∀ a, H a ≠ none → M' a = lendM (frzM M L) a) (hk : ∀ a, H a ≠ none → H' a ≠ none) (d' : Dom M' H') :
    (∀ a, H a ≠ none → a ∉ L → backM M L M' a = M a) ∧ Dom (backM M L M') H' := by
  refine ⟨fun a ha hn => ?_, fun a ha => ?_⟩
  · by_cases e : M a = some .own
    · unfold backM; rw [if_pos ⟨e, hn⟩, e]
    · have q := k a ha
      rw [lendM_ne (by rw [frzM_out hn]; exact e), frzM_out hn] at q
      unfold backM; rw [if_neg (fun z => e z.1), q]
  · by_cases e : M a = some .own ∧ a ∉ L
    · exact hk a (d a (by rw [e.1]; simp))
    · unfold backM at ha; rw [if_neg e] at ha; exact d' a ha
theorem back_rep {L : List Addr} {M' : MM} {H' : Hp} (dm : Dom M H) (hL : ∀ a ∈ L, M a = some .own) (k : ∀ a, H a ≠ none → M' a = lendM (frzM M L) a) {d : D} {v : V} {l : List Addr} (r : Rep n.c M' H' d v l) (hc : d.cl = true) : Rep n.c (backM M L M') H' d v l :=
  Rep.mono d r fun a ha h1 h2 => by
    have e : ¬ (M a = some .own ∧ a ∉ L) := fun ⟨e1, e2⟩ => by
      have q := k a (dm a (by rw [e1]; simp))
      rw [lendM_own (by rw [frzM_out e2]; exact e1)] at q
      have z := h2 q
      rcases cl_md hc with y | y <;> (rw [y] at z; simp at z)
    exact ⟨by unfold backM; rw [if_neg e], .inl rfl, fun _ => rfl⟩
theorem back_reps {L : List Addr} {M' : MM} {H' : Hp} (dm : Dom M H) (hL : ∀ a ∈ L, M a = some .own) (k : ∀ a, H a ≠ none → M' a = lendM (frzM M L) a) : ∀ {ds : List D} {vs : List V} {l : List Addr}, RepA n.c M' H' ds vs l → ds.all D.cl = true → RepA n.c (backM M L M') H' ds vs l
  | [], _, _, h, _ => h
  | d :: ds, vs, l, ⟨v, vs', l1, l2, e, r1, r2, hl⟩, hc => by
    rw [List.all_cons, Bool.and_eq_true] at hc
    exact ⟨v, vs', l1, l2, e, back_rep dm hL k r1 hc.1, back_reps dm hL k r2 hc.2, hl⟩
/-- a call's promise, from what is wanted of its value -/
theorem call_spec {ds : List D} {vs : List V} {l : List Addr} {r : RO} {Q : VK} {E : XK} (st : St0 M0 H0 M H) (ra : RepA n.c M H ds vs l) (f : ∀ a ∈ l, H0 a = none)
    (h : PR r.val (PE1 n M0 H0 Q) (PX n M0 H0 E)) : SpC n r (ds.map D.arg) vs H Q E := by
  have hL : ∀ a ∈ l, M a = some .own := fun a ha => (RepA.own ra a ha).1
  have hH : ∀ a ∈ l, H a ≠ none := fun a ha => (RepA.own ra a ha).2
  refine ⟨lendM (frzM M l), [], args_rep hL ra (fun _ z => z), args_md ds, .nil, Dom.lend st.d hL, ?_⟩
  cases r with
  | ret d fins =>
    intro v M' H' lr lf hc ss rv rf nd
    have k : ∀ a, H a ≠ none → H' a = H a ∧ M' a = lendM (frzM M l) a := fun a ha => ss.k a ha lend_frz_own
    obtain ⟨b1, b2⟩ := back_st st.d hL (fun a ha => (k a ha).2) (fun a ha => by rw [(k a ha).1]; exact ha) ss.d
    have nl : ∀ a, H0 a ≠ none → a ∉ l := fun a ha z => ha (f a z)
    refine h v (backM M l M') H' lr ⟨fun a ha => ?_, b2⟩ (back_rep st.d hL (fun a ha => (k a ha).2) rv hc) (fun a ha => ?_) (List.nodup_append.mp nd).1
    · obtain ⟨e1, e2⟩ := st.k a ha
      have hh : H a ≠ none := by rw [e1]; exact ha
      exact ⟨(k a hh).1.trans e1, (b1 a hh (nl a ha)).trans e2⟩
    · cases e : H a with
      | none => exact st.fresh e
      | some o =>
        have q := (k a (by rw [e]; simp)).2
        rw [(Rep.owns d rv a ha).1] at q
        exact absurd q.symm lend_frz_own
  | ex c xs fins =>
    intro dx M' H' lf hc ss xr rf nd
    have k : ∀ a, H a ≠ none → KeepX H H' a ∧ M' a = lendM (frzM M l) a := fun a ha => ss.k a ha lend_frz_own
    obtain ⟨b1, b2⟩ := back_st st.d hL (fun a ha => (k a ha).2) (fun a ha => (k a ha).1.there ha) ss.d
    have nl : ∀ a, H0 a ≠ none → a ∉ l := fun a ha z => ha (f a z)
    refine h dx (backM M l M') H' ⟨fun a ha => ?_, b2⟩ ?_
    · obtain ⟨e1, e2⟩ := st.k a ha
      have hh : H a ≠ none := by rw [e1]; exact ha
      obtain ⟨k1, k2⟩ := k a hh
      exact ⟨KeepX.trans (.inl e1) k1, (b1 a hh (nl a ha)).trans e2⟩
    · unfold XRep at xr ⊢
      cases xs with
      | nil => exact xr
      | cons x xs =>
        obtain ⟨a, us, e1, em, r1, e2⟩ := xr
        refine ⟨a, us, e1, ?_, back_reps st.d hL (fun a ha => (k a ha).2) r1 hc, e2⟩
        by_cases q : M a = some .own ∧ a ∉ l
        · have z := (k a (st.d a (by rw [q.1]; simp))).2
          rw [lendM_own (by rw [frzM_out q.2]; exact q.1), em] at z
          cases z
        · unfold backM; rw [if_neg q]; exact em
  | stuck => exact False.elim h
end
end GS

namespace GS
open PySem PySem.Spec PyProof.Rows L2

section
variable {n : Env'} {G : GE} {X : Cx} {W : WX} {M M0 M1 : MM} {H H0 H1 : Hp} {s : Sl} {σ : L2.St}
abbrev OkSE (n : Env') (G : GE) (X : Cx) (e : Expr) (t : Tm) : Prop := okE e = true ∧ SE n G X e t
theorem All2.ok {es : List Expr} {ts : List Tm} (h : All2 (OkSE n G X) es ts) : ∀ e ∈ es, okE e = true := by
  induction h with
  | nil => exact fun _ z => nomatch z
  | cons a _ ih => exact fun e he => (List.mem_cons.mp he).elim (fun z => by rw [z]; exact a.1) (ih e)
theorem All2.len {α β : Type} {R : α → β → Prop} {as : List α} {bs : List β} (h : All2 R as bs) : as.length = bs.length := by
  induction h with
  | nil => rfl
  | cons _ _ ih => simp [ih]

/-! ### f(..) -/
theorem pe_callX {f : Addr} {x : Str} {p pos : Pos} {e : Expr} {es : List Expr} {t : TA} (hg : Gl X x) (hm : X.mg x = some (.ref f)) (hk : PySem.W.keepIn X.K (.ref f) = true) (ha : PA X (e :: es) t) (ho : ∀ q ∈ e :: es, okE q = true) (hdb : (x == ("__debug__" : Str)) = false) :
    PE X (.Call (.Name x p) (e :: es) [] pos) (fun σ H _ => t σ H fun _ _ => False) :=
  ⟨fun pins sh σ H Q I h => wpAny_Call_Name_kw (ld_glob I hg hm (PySem.W.callWith_K (h₀ := X.base) I.ok.mod.kin hk (thn (ha.run pos pins sh σ H _ I h) fun us s1 ⟨_, _, _, _, q⟩ => q.elim) (okE_star (ho e (by simp)) _ _) (noStar fun x hx => ho x (by simp [hx]))) hdb)⟩
theorem se_cal (F : FC n G X) (hcm : X.calm = true) {f : Nat} {x : Str} {p pos : Pos} {es : List Expr} {ts : List Tm} (hx : x = n.fn f) (ok : n.okf f = true) (hg : Gl X x) (hdb : (x == ("__debug__" : Str)) = false) (ha : All2 (OkSE n G X) es ts) (h0 : es ≠ []) :
    SE n G X (.Call (.Name x p) es [] pos) (.cal f ts) := by
  intro W tk M s σ H Q R h
  unfold evalE at h
  have hsa := sa_of ha
  have ho := All2.ok ha
  obtain ⟨hm, hk⟩ := F.fnm f ok
  rw [← hx] at hm
  cases es with
  | nil => exact absurd rfl h0
  | cons e es =>
    cases he : evalL G ts s with
    | stuck => rw [he] at h; exact False.elim h
    | ex c xs =>
      rw [he] at h
      exact ⟨_, pe_callX hg hm hk wa ho hdb, hsa W tk M s σ H _ R (by rw [he]; exact h)⟩
    | ok ds =>
      rw [he] at h
      have hns : G.call f (ds.map D.arg) ≠ .stuck := fun z => by rw [Res.bind_ok, z] at h; exact h
      obtain ⟨k, fd, ps, dvs, dsv, sp, hF, hr, hk, hd, hb, hsp⟩ := F.call hcm f _ hns
      refine ⟨_, pe_callW tk hF hr hg hm hk hb hd wa ho hdb, hsa W tk M s σ H _ R ?_⟩
      rw [he]
      exact fun vs M' H' l st ra f nd => hsp vs H' Q _ (call_spec st ra f h)

/-! ### o.m(..) -/
theorem pe_methX1 {m : Str} {apos pos : Pos} {o : Expr} {es : List Expr} {ta : TE} (he : PE X o ta) (ho : ∀ q ∈ es, okE q = true) (hl : es.length < 29) (hln : (apos.endLine == pos.line) = true) (hf : methForm o = true) :
    PE X (.Call (.Attribute o m apos) es [] pos) (fun σ H _ => ta σ H fun _ _ => False) :=
  ⟨fun pins sh σ H Q I h => PySem.W.methodCall_KW (pl := plainOf o X.env) (thn (he.run pins sh σ H _ I h) fun u s1 ⟨_, _, _, _, q⟩ => q.elim) (ev_meth hf ho hl hln)⟩
theorem pe_methX2 {C f : Addr} {m : Str} {apos pos : Pos} {o e : Expr} {es : List Expr} {ta : TE} {t : TA} (he : PE X o ta) (c : Cls X.K C) (hm : Meth X.K C m f) (ha : PA X (e :: es) t) (ho : ∀ q ∈ e :: es, okE q = true) (hl : (e :: es).length < 29) (hln : (apos.endLine == pos.line) = true) (hf : methForm o = true) :
    PE X (.Call (.Attribute o m apos) (e :: es) [] pos) (fun σ H _ => ta σ H fun x H1 => ∃ a dx fs, x = .ref a ∧ H1 a = some (.ins C dx fs) ∧ fs.lookup m = none ∧ t σ H1 fun _ _ => False) := by
  refine ⟨fun pins sh σ H Q I h => PySem.W.methodCall_KW (pl := plainOf o X.env) (thn (he.run pins sh σ H _ I h) fun u s1 ⟨x, H1, I1, rx, a, dx, fs, ex, ea, l, q⟩ => ?_) (ev_meth hf ho hl hln)⟩
  subst ex
  obtain rfl : u = Value.ref a := rx
  refine getmeth_ok I1 ea c hm l ?_
  exact PySem.W.callWith_K (first := [.ref a]) (h₀ := X.base) I.ok.mod.kin hm.kp (thn (ha.run pos pins s1 σ H1 _ I1 q) fun us s2 ⟨_, _, _, _, q⟩ => q.elim) (okE_star (ho e (by simp)) _ _) (noStar fun x hx => ho x (by simp [hx]))
theorem lookup_no {an : Nat → Str} (inj : ∀ f g, an f = an g → f = g) {m : Nat} : ∀ {fs : List Nat} {fvs : List (Str × V)}, fvs.map (·.1) = fs.map an → (fs.any fun g => decide (g = m)) = false → fvs.lookup (an m) = none
  | [], fvs, e, _ => by
    have : fvs = [] := by simpa using e
    rw [this]; rfl
  | f :: fs, [], e, _ => by simp at e
  | f :: fs, (x, v) :: fvs, e, h => by
    simp only [List.map_cons, List.cons.injEq] at e
    rw [List.any_cons, Bool.or_eq_false_iff] at h
    have hne : (an m == x) = false := by
      rw [beq_eq_false_iff_ne, e.1]
      intro z
      exact of_decide_eq_false h.1 (inj _ _ z).symm
    rw [List.lookup_cons, hne]
    exact lookup_no inj e.2 h.2
theorem lookup_at {p : Md} {an : Nat → Str} (inj : ∀ f g, an f = an g → f = g) {f : Nat} {d : D} : ∀ {fs : List Nat} {ds : List D} {fvs : List (Str × V)} {l : List Addr}, fvs.map (·.1) = fs.map an → Reps n.c M H p ds (fvs.map (·.2)) l → atFld f fs ds = some d →
    ∃ v l', fvs.lookup (an f) = some v ∧ Rep n.c M H d v l' ∧ l'.Sublist l ∧ chOk p d.md = true
  | [], _, _, _, _, _, e => by unfold atFld at e; cases e
  | q :: fs, [], _, _, _, _, e => by unfold atFld at e; cases e
  | q :: fs, x :: ds, [], _, e, _, _ => by simp at e
  | q :: fs, x :: ds, (y, v) :: fvs, l, e, r, ha => by
    simp only [List.map_cons, List.cons.injEq] at e
    obtain ⟨w, vs', l1, l2, ev, ck, r1, r2, hl⟩ := r
    simp only [List.map_cons, List.cons.injEq] at ev
    obtain ⟨rfl, rfl⟩ := ev
    unfold atFld at ha
    split at ha
    · next hq =>
      cases ha
      exact ⟨v, l1, by rw [List.lookup_cons, e.1, hq, beq_self_eq_true], r1, by rw [hl]; exact List.sublist_append_left _ _, ck⟩
    · next hq =>
      obtain ⟨w, l', e1, r', hs, ck'⟩ := lookup_at inj e.2 r2 ha
      have hne : (an f == y) = false := by
        rw [beq_eq_false_iff_ne, e.1]
        exact fun z => hq (inj _ _ z).symm
      exact ⟨w, l', by rw [List.lookup_cons, hne]; exact e1, r', by rw [hl]; exact hs.trans (List.sublist_append_right _ _), ck'⟩
theorem se_met (F : FC n G X) (hcm : X.calm = true) {m : Nat} {mn : Str} {apos pos : Pos} {o : Expr} {to : Tm} {es : List Expr} {ts : List Tm} (hmn : mn = n.c.an m) (ho : SE n G X o to) (ha : All2 (OkSE n G X) es ts) (hl : es.length < 29) (hln : (apos.endLine == pos.line) = true) (hf : methForm o = true) :
    SE n G X (.Call (.Attribute o mn apos) es [] pos) (.met to m ts) := by
  intro W tk M s σ H Q R h
  unfold evalE at h
  subst hmn
  have hsa := sa_of ha
  have hok := All2.ok ha
  cases hx : evalE G to s with
  | stuck => rw [hx] at h; exact False.elim h
  | ex c xs =>
    rw [hx] at h
    exact ⟨_, pe_methX1 we hok hl hln hf, ho W tk M s σ H _ R (by rw [hx]; exact h)⟩
  | ok x =>
    rw [hx, Res.bind_ok] at h
    cases x with
    | ins mo k fs ds0 =>
      dsimp only at h
      cases hm : G.meth k m with
      | none => rw [hm] at h; exact False.elim h
      | some f =>
        rw [hm] at h
        obtain ⟨hg, h⟩ := PR.guard h
        rw [Bool.not_eq_true'] at hg
        obtain ⟨hc, hme⟩ := F.cls k m f hm
        cases he : evalL G ts s with
        | stuck => rw [he] at h; exact False.elim h
        | ex c xs =>
          rw [he] at h
          cases es with
          | nil => cases ha; unfold evalL at he; cases he
          | cons e es =>
            refine ⟨_, pe_methX2 we hc hme wa hok hl hln hf, ho W tk M s σ H _ R ?_⟩
            rw [hx]
            intro v M1 H1 l1 s1 r1 f1 n1
            obtain ⟨a, dx, fvs, l', rfl, nd, ek, rr, el⟩ := r1
            have nd := (nd.plain (.inr (F.nxm k m f hm))).2
            refine ⟨a, dx, fvs, rfl, nd.2, lookup_no F.inj ek hg, hsa W tk M1 s σ H1 _ (R.step s1) ?_⟩
            rw [he]
            exact PX.step (H := H) (M := M) s1 (show PX n M H (fun cls d H' => W cls d σ H') c xs from h)
        | ok ds =>
          rw [he, Res.bind_ok] at h
          have hns : G.call f ((.ins mo k fs ds0 :: ds).map D.arg) ≠ .stuck := fun z => by rw [z] at h; exact h
          obtain ⟨kk, fd, ps, dvs, dsv, sp, hF, hr, hk, hd, hb, hsp⟩ := F.call hcm f _ hns
          cases es with
          | nil =>
            refine ⟨_, pe_meth0W tk we hc hme hF hr hb hd hln hf, ho W tk M s σ H _ R ?_⟩
            rw [hx]
            intro v M1 H1 l1 s1 r1 f1 n1
            have r1' := r1
            obtain ⟨a, dx, fvs, l', rfl, nd, ek, rr, el⟩ := r1
            have nd := (nd.plain (.inr (F.nxm k m f hm))).2
            cases ha
            have : ds = [] := by unfold evalL at he; cases he; rfl
            subst this
            refine ⟨a, dx, fvs, rfl, nd.2, lookup_no F.inj ek hg, ?_⟩
            have sc := call_spec (ds := [.ins mo k fs ds0]) (vs := [.ref a]) (l := l1) (Q := Q) (E := fun cls d H' => W cls d σ H') s1 ⟨.ref a, [], l1, [], rfl, r1', ⟨rfl, rfl⟩, by simp⟩ f1 h
            exact hsp _ _ _ _ sc
          | cons e es =>
            refine ⟨_, pe_methW tk we hc hme hF hr hb hd wa hok hl hln hf, ho W tk M s σ H _ R ?_⟩
            rw [hx]
            intro v M1 H1 l1 s1 r1 f1 n1
            have r1' := r1
            obtain ⟨a, dx, fvs, l', rfl, nd, ek, rr, el⟩ := r1
            have nd := (nd.plain (.inr (F.nxm k m f hm))).2
            refine ⟨a, dx, fvs, rfl, nd.2, lookup_no F.inj ek hg, hsa W tk M1 s σ H1 _ (R.step s1) ?_⟩
            rw [he]
            intro vs M2 H2 l2 s2 r2 f2 n2
            have fr : ∀ q ∈ l1 ++ l2, H q = none := fun q hq => (List.mem_append.mp hq).elim (f1 q) fun hq => s1.fresh (f2 q hq)
            have sc := call_spec (ds := .ins mo k fs ds0 :: ds) (vs := .ref a :: vs) (l := l1 ++ l2) (Q := Q) (E := fun cls d H' => W cls d σ H') (s1.trans s2) ⟨.ref a, vs, l1, l2, rfl, r1'.step s1.d s2, r2, rfl⟩ fr h
            exact hsp _ _ _ _ sc
    | _ => exact False.elim h
end
end GS

namespace GS
open PySem PySem.Spec PyProof.Rows L2

section
variable {n : Env'} {G : GE} {X : Cx} {W : WX} {M M0 M1 : MM} {H H0 H1 : Hp} {s : Sl} {σ : L2.St}

/-! ### C(..) -/
theorem pe_makeX {C : Addr} {x : Str} {p pos : Pos} {e : Expr} {es : List Expr} {t : TA} (hg : Gl X x) (hm : X.mg x = some (.ref C)) (hk : PySem.W.keepIn X.K (.ref C) = true) (ha : PA X (e :: es) t) (ho : ∀ q ∈ e :: es, okE q = true) (hdb : (x == ("__debug__" : Str)) = false) :
    PE X (.Call (.Name x p) (e :: es) [] pos) (fun σ H _ => t σ H fun _ _ => False) := pe_callX hg hm hk ha ho hdb
theorem made_spec {c : Nat} (hxc : n.c.xc c = false) {ds : List D} {vs : List V} {l : List Addr} {r : RO} {Q : VK} {E : XK} {x dx : Addr} {fz : Bool} (st : St0 M0 H0 M H) (ra : RepA n.c M H ds vs l) (f : ∀ a ∈ l, H0 a = none) (hx : H x = none) (hdx : H dx = none) (hne : dx ≠ x)
    (h : PR (r.made fz) (PE1 n M0 H0 Q) (PX n M0 H0 E)) : SpC n r (.ins .own c [] [] :: ds.map D.arg) (.ref x :: vs) (upd (upd H dx (.own x)) x (.ins (n.c.ca c) dx [])) (fun v H2 => v = .non ∧ Q (.ref x) H2) E := by
  have hL : ∀ a ∈ l, M a = some .own := fun a ha => (RepA.own ra a ha).1
  have hH : ∀ a ∈ l, H a ≠ none := fun a ha => (RepA.own ra a ha).2
  have dc := Dom.lend (L := l) st.d hL
  -- the heap with the instance's dict, then with the instance
  have a1 := args_rep hL ra (fun _ z => z)
  have hxd : upd H dx (.own x) x = none := by rw [upd_ne (fun z => hne z.symm)]; exact hx
  have dd : Dom (lendM (frzM M l)) (upd H dx (.own x)) := fun a ha => by
    by_cases z : a = dx
    · rw [z, upd_same]; simp
    · rw [upd_ne z]; exact dc a ha
  have sd : St0 (lendM (frzM M l)) H (lendM (frzM M l)) (upd H dx (.own x)) := ⟨fun a ha => ⟨upd_ne (fun z => ha (by rw [z]; exact hdx)), rfl⟩, dd⟩
  have sx : St0 (lendM (frzM M l)) (upd H dx (.own x)) (layM (lendM (frzM M l)) x .own) (upd (upd H dx (.own x)) x (.ins (n.c.ca c) dx [])) := St0.lay dd hxd
  have a2 := a1.step dc (sd.trans sx)
  refine ⟨layM (lendM (frzM M l)) x .own, [x], ⟨.ref x, vs, [x], [], rfl, ⟨x, dx, [], [], rfl, .inl ⟨hxc, layM_same, upd_same⟩, rfl, ⟨rfl, rfl⟩, rfl⟩, a2, rfl⟩, ?_, by simp, sx.d, ?_⟩
  · intro d hd
    rcases List.mem_cons.mp hd with e | hd
    · rw [e]; simp [D.md]
    · exact args_md ds d hd
  have old : ∀ {a}, H a ≠ none → a ≠ x ∧ a ≠ dx := fun {a} ha => ⟨fun z => ha (by rw [z]; exact hx), fun z => ha (by rw [z]; exact hdx)⟩
  have nl : ∀ a, H0 a ≠ none → a ∉ l := fun a ha z => ha (f a z)
  have kk : ∀ {M' : MM} {a : Addr}, H a ≠ none → layM (lendM (frzM M l)) x .own a = lendM (frzM M l) a ∧ upd (upd H dx (.own x)) x (.ins (n.c.ca c) dx []) a = H a := fun {M' a} ha => by
    obtain ⟨z1, z2⟩ := old ha
    exact ⟨layM_ne z1, by rw [upd_ne z1, upd_ne z2]⟩
  cases r with
  | stuck => exact False.elim h
  | ret d fins =>
    intro v M' H' lr lf hc ss rv rf nd
    cases d with
    | non =>
      cases fins with
      | nil => exact False.elim h
      | cons o fins =>
        cases o with
        | none => exact False.elim h
        | some d =>
          obtain ⟨l1, l2, rd, _, el⟩ := rf
          refine ⟨rv.1, ?_⟩
          have k : ∀ a, H a ≠ none → H' a = H a ∧ M' a = lendM (frzM M l) a := fun a ha => by
            obtain ⟨e1, e2⟩ := kk (M' := M') ha
            have q := ss.k a (by rw [e2]; exact ha) (by rw [e1]; exact lend_frz_own)
            exact ⟨q.1.trans e2, q.2.trans e1⟩
          obtain ⟨b1, b2⟩ := back_st st.d hL (fun a ha => (k a ha).2) (fun a ha => by rw [(k a ha).1]; exact ha) ss.d
          have fr1 : ∀ a ∈ l1, H0 a = none := fun a ha => by
            cases e : H a with
            | none => exact st.fresh e
            | some o =>
              have q := (k a (by rw [e]; simp)).2
              rw [(Rep.owns d rd a ha).1] at q
              exact absurd q.symm lend_frz_own
          have s2 : St0 M0 H0 (backM M l M') H' := ⟨fun a ha => by
            obtain ⟨e1, e2⟩ := st.k a ha
            have hh : H a ≠ none := by rw [e1]; exact ha
            exact ⟨(k a hh).1.trans e1, (b1 a hh (nl a ha)).trans e2⟩, b2⟩
          have nd1 : l1.Nodup := by
            have := (List.nodup_append.mp nd).2.1
            rw [el] at this
            exact (List.nodup_append.mp this).1
          have rb : d.cl = true → Rep n.c (backM M l M') H' d (.ref x) l1 := fun hcl => back_rep st.d hL (fun a ha => (k a ha).2) rd hcl
          obtain ⟨hcl, h⟩ := PR.guard (show PR (Res.guard d.cl (.ok (if fz then d.own2 .fz else d))) _ _ from h)
          cases fz with
          | false => exact h (.ref x) _ H' l1 s2 (rb hcl) fr1 nd1
          | true =>
            have ow : ∀ a ∈ l1, backM M l M' a = some .own := fun a ha => (Rep.owns d (rb hcl) a ha).1
            have ow2 : ∀ a ∈ l1, H' a ≠ none := fun a ha => (Rep.owns d (rb hcl) a ha).2
            exact h (.ref x) (frzM (backM M l M') l1) H' [] (st0_frz s2 fr1 ow2) (Rep.freeze l1 d (rb hcl) (fun _ z => z) ow hcl) (fun _ z => nomatch z) .nil
    | _ => exact False.elim h
  | ex e xs fins =>
    intro dx' M' H' lf hc ss xr rf nd
    have k : ∀ a, H a ≠ none → KeepX H H' a ∧ M' a = lendM (frzM M l) a := fun a ha => by
      obtain ⟨e1, e2⟩ := kk (M' := M') ha
      have q := ss.k a (by rw [e2]; exact ha) (by rw [e1]; exact lend_frz_own)
      exact ⟨KeepX.trans (.inl e2) q.1, q.2.trans e1⟩
    obtain ⟨b1, b2⟩ := back_st st.d hL (fun a ha => (k a ha).2) (fun a ha => (k a ha).1.there ha) ss.d
    refine h dx' (backM M l M') H' ⟨fun a ha => ?_, b2⟩ ?_
    · obtain ⟨e1, e2⟩ := st.k a ha
      have hh : H a ≠ none := by rw [e1]; exact ha
      exact ⟨KeepX.trans (.inl e1) (k a hh).1, (b1 a hh (nl a ha)).trans e2⟩
    · unfold XRep at xr ⊢
      cases xs with
      | nil => exact xr
      | cons y ys =>
        obtain ⟨a, us, e1, em, r1, e2⟩ := xr
        refine ⟨a, us, e1, ?_, back_reps st.d hL (fun a ha => (k a ha).2) r1 hc, e2⟩
        by_cases q : M a = some .own ∧ a ∉ l
        · have z := (k a (st.d a (by rw [q.1]; simp))).2
          rw [lendM_own (by rw [frzM_out q.2]; exact q.1), em] at z
          cases z
        · unfold backM; rw [if_neg q]; exact em
theorem se_mak (F : FC n G X) (hcm : X.calm = true) {c : Nat} {x : Str} {p pos : Pos} {es : List Expr} {ts : List Tm} (hx : x = n.cn c) (ok : n.okc c = true) (hg : Gl X x) (hdb : (x == ("__debug__" : Str)) = false) (ha : All2 (OkSE n G X) es ts) : SE n G X (.Call (.Name x p) es [] pos) (.mak c ts) := by
  intro W tk M s σ H Q R h
  unfold evalE at h
  have hsa := sa_of ha
  have ho := All2.ok ha
  obtain ⟨hm, hk⟩ := F.cnm c ok
  rw [← hx] at hm
  cases he : evalL G ts s with
  | stuck => rw [he] at h; exact False.elim h
  | ex c' xs =>
    rw [he] at h
    cases es with
    | nil => cases ha; unfold evalL at he; cases he
    | cons e es => exact ⟨_, pe_makeX hg hm hk wa ho hdb, hsa W tk M s σ H _ R (by rw [he]; exact h)⟩
  | ok ds =>
    rw [he, Res.bind_ok] at h
    cases hi : G.init c with
    | none => rw [hi] at h; exact False.elim h
    | some f =>
      rw [hi] at h
      have hns : G.make f (.ins .own c [] [] :: ds.map D.arg) ≠ .stuck := fun z => by dsimp only at h; rw [z] at h; exact h
      obtain ⟨k, fd, ps, dvs, dsv, sp, hF, hr, hd, hb, hsp⟩ := F.make hcm f _ hns
      have mk := F.mki c f hi
      cases es with
      | nil =>
        cases ha
        have : ds = [] := by unfold evalL at he; cases he; rfl
        subst this
        refine ⟨_, pe_make0W tk mk hF hr hg hm hb hd hdb, ?_⟩
        intro y dx hy hdx hne
        exact hsp _ _ _ _ (made_spec (F.nxi c f hi) (ds := []) (vs := []) (l := []) (St0.refl R.dom) ⟨rfl, rfl⟩ (fun _ z => nomatch z) hy hdx hne h)
      | cons e es =>
        refine ⟨_, pe_makeW tk mk hF hr hg hm hb hd wa ho hdb, hsa W tk M s σ H _ R ?_⟩
        rw [he]
        intro vs M1 H1 l s1 ra f1 n1 y dx hy hdx hne
        exact hsp _ _ _ _ (made_spec (F.nxi c f hi) s1 ra f1 hy hdx hne h)

/-! ### fields, items -/
theorem PE1.old {Q : VK} {d : D} {v : V} {l : List Addr} (h : PE1 n M0 H0 Q d) (st : St0 M0 H0 M H) (r : Rep n.c M H d v l) (f : ∀ a ∈ l, H0 a = none) (nd : l.Nodup) : Q v H := h v M H l st r f nd
theorem PE1.part {Q : VK} {d : D} {v : V} {l l' : List Addr} (h : PE1 n M0 H0 Q d) (st : St0 M0 H0 M H) (r : Rep n.c M H d v l') (hs : l'.Sublist l) (f : ∀ a ∈ l, H0 a = none) (nd : l.Nodup) : Q v H := h v M H l' st r (fun a ha => f a (hs.subset ha)) (nd.sublist hs)
theorem consO_sub (m : Md) (a : Addr) (l : List Addr) : l.Sublist (consO m a l) := by
  cases m <;> first | exact List.Sublist.refl _ | exact List.sublist_cons_self _ _
/-- a caught exception's field -/
def tXg (K : PySem.W.Frag) (f : Str) (te : TE) : TE := fun σ H Q => te σ H fun x H1 => ∃ (a C dd : Addr) (fs : List (Str × V)) (v : V), x = .ref a ∧ H1 a = some (exR (.ref C) (some dd) a) ∧ H1 dd = some (.xd fs) ∧ ExK K C ∧ PySem.W.findIn K (.ref C) f = some none ∧ fs.lookup f = some v ∧ Q v H1
theorem exR_at {P : Program} {w : World} {h : Heap} {a : Addr} {cls : Value} {d : Option Addr} (hok : HOk P w H h) (e : H a = some (exR cls d a)) : ∃ (oe : Obj) (vs : Array Value), h.get? a = some oe ∧ Zc cls d oe ∧ oe.data = .fields vs := by
  have x : ObjOk P w H h a (.ext fun h => ∃ (oe : Obj) (vs : Array Value), h.get? a = some oe ∧ Zc cls d oe ∧ oe.data = .fields vs) := hok a _ e
  exact x.1
theorem pe_xg {e : Expr} {te : TE} {pos : Pos} {f : Str} (he : PE X e te) (hb : attributeBase e f X.env (eval e X.env) = eval e X.env) : PE X (.Attribute e f pos) (tXg X.K f te) := by
  refine ⟨fun pins s σ H Q I h => ?_⟩
  refine attr_of hb (thn (he.run pins s σ H _ I h) fun u s1 hh => ?_)
  obtain ⟨x, H1, I1, rx, a, C, dd, fs, v, ex, ea, ed, T, hno, l, q⟩ := hh
  subst ex
  obtain rfl : u = Value.ref a := rx
  obtain ⟨oe, vs, ha, hz, hd⟩ := exR_at I1.hok ea
  have hx : ObjOk X.prog X.w H1 s1.heap dd (.xd fs) := I1.hok dd _ ed
  obtain ⟨mA, hns, hr⟩ := hx
  obtain ⟨od, ho, hl⟩ := lookIn_ns hns
  obtain ⟨u, hu, ru⟩ := RelO.some_of (v := v) (o := mA f) (by rw [← l]; exact hr f)
  have J : PySem.W.InstAt s1.heap a oe C (some od) := ⟨ha, hz.1, by unfold PySem.W.notCls; rw [hd] <;> rfl, by rw [hz.2]; exact ho⟩
  exact HandSPX.exc_get I1.kIn J T.ga T.gg T.ex (PySem.W.findObj_own T.hd hno rfl (by rw [hl, hu])) (handed_of ru) ⟨v, H1, I1.tok _, ru, q⟩
theorem se_fld (F : FC n G X) {f : Nat} {fnm : Str} {o : Expr} {to : Tm} {pos : Pos} (hf : fnm = n.c.an f) (ho : SE n G X o to) (hm : methForm o = true) : SE n G X (.Attribute o fnm pos) (.fld to f) := by
  intro W tk M s σ H Q R h
  unfold evalE at h
  subst hf
  by_cases hx : ∃ m k fs ds, evalE G to s = .ok (.ins m k fs ds) ∧ n.c.xc k = true
  · obtain ⟨mo, k, fs, ds, hev, hxc⟩ := hx
    refine ⟨_, pe_xg we (base_of hm _ _ _), ho W tk M s σ H _ R (h.bind.imp (fun x ex hx v M1 H1 l1 s1 r1 f1 n1 => ?_) fun _ _ q => q)⟩
    rw [hev] at ex
    cases ex
    unfold vFld at hx
    obtain ⟨hg, hx2⟩ := PR.guard hx
    obtain ⟨d, hd, hx3⟩ := PR.ofOpt hx2
    have hno := F.fok k f hg
    rw [if_pos hxc] at hno
    obtain ⟨a, dx, fvs, l', rfl, nd, ek, rr, el⟩ := r1
    obtain ⟨w, l2, e1, r2, hs, _⟩ := lookup_at F.inj ek rr hd
    rcases nd with ⟨h0, _⟩ | ⟨_, rfl, ⟨e0, _⟩ | ⟨n1', n2'⟩⟩
    · rw [hxc] at h0; cases h0
    · subst e0; cases e1
    · exact ⟨a, _, dx, fvs, w, rfl, n1'.2, n2'.2, (F.xk k (by rw [← F.xcE]; exact hxc)).1, hno, e1, PE1.part hx3 s1 r2 (hs.trans (by rw [el]; exact consO_sub _ _ _)) f1 n1⟩
  · refine ⟨_, pe_fld we (base_of hm _ _ _), ho W tk M s σ H _ R (h.bind.imp (fun x ex hx' v M1 H1 l1 s1 r1 f1 n1 => ?_) fun _ _ q => q)⟩
    cases x with
    | ins mo k fs ds =>
      have hxc : n.c.xc k = false := by
        cases q : n.c.xc k with
        | false => rfl
        | true => exact absurd ⟨mo, k, fs, ds, ex, q⟩ hx
      unfold vFld at hx'
      obtain ⟨hg, hx'⟩ := PR.guard hx'
      obtain ⟨d, hd, hx'⟩ := PR.ofOpt hx'
      have hcc := F.fok k f hg
      rw [if_neg (by rw [hxc]; simp)] at hcc
      obtain ⟨a, dx, fvs, l', rfl, nd, ek, rr, el⟩ := r1
      obtain ⟨w, l2, e1, r2, hs, _⟩ := lookup_at F.inj ek rr hd
      exact ⟨a, _, dx, fvs, w, rfl, (nd.plain (.inr hxc)).2.2, hcc.1, hcc.2, e1, PE1.part hx' s1 r2 (hs.trans (by rw [el]; exact consO_sub _ _ _)) f1 n1⟩
    | _ => exact False.elim hx'
/-- the value of a key -/
theorem key_val {p : Md} {k : Key} {d : D} : ∀ {ks : List Key} {ds : List D} {kvs : List (Key × V)} {l : List Addr}, kvs.map (·.1) = ks → Reps n.c M H p ds (kvs.map (·.2)) l → atKeyD k ks ds = some d →
    ∃ v l', valV kvs k = some v ∧ Rep n.c M H d v l' ∧ l'.Sublist l ∧ chOk p d.md = true
  | [], _, _, _, _, _, e => by unfold atKeyD at e; cases e
  | q :: ks, [], _, _, _, _, e => by unfold atKeyD at e; cases e
  | q :: ks, x :: ds, [], _, e, _, _ => by simp at e
  | q :: ks, x :: ds, (y, v) :: kvs, l, e, r, ha => by
    simp only [List.map_cons, List.cons.injEq] at e
    obtain ⟨w, vs', l1, l2, ev, ck, r1, r2, hl⟩ := r
    simp only [List.map_cons, List.cons.injEq] at ev
    obtain ⟨rfl, rfl⟩ := ev
    unfold atKeyD at ha
    split at ha
    · next hq =>
      cases ha
      exact ⟨v, l1, valV_pos (e.1.trans hq), r1, by rw [hl]; exact List.sublist_append_left _ _, ck⟩
    · next hq =>
      obtain ⟨w, l', e1, r', hs, ck'⟩ := key_val e.2 r2 ha
      exact ⟨w, l', (valV_neg (fun z => hq (e.1.symm.trans z))).trans e1, r', by rw [hl]; exact hs.trans (List.sublist_append_right _ _), ck'⟩
theorem key_no {p : Md} {k : Key} : ∀ {ks : List Key} {ds : List D} {kvs : List (Key × V)} {l : List Addr}, kvs.map (·.1) = ks → Reps n.c M H p ds (kvs.map (·.2)) l → atKeyD k ks ds = none → valV kvs k = none
  | _, _, [], _, _, _, _ => rfl
  | [], _, (y, v) :: kvs, _, e, _, _ => by simp at e
  | q :: ks, [], (y, v) :: kvs, _, _, r, _ => by have := r.1; simp at this
  | q :: ks, x :: ds, (y, v) :: kvs, l, e, r, ha => by
    simp only [List.map_cons, List.cons.injEq] at e
    obtain ⟨w, vs', l1, l2, ev, ck, r1, r2, hl⟩ := r
    simp only [List.map_cons, List.cons.injEq] at ev
    obtain ⟨rfl, rfl⟩ := ev
    unfold atKeyD at ha
    split at ha
    · cases ha
    · next hq => exact (valV_neg (fun z => hq (e.1.symm.trans z))).trans (key_no e.2 r2 ha)
theorem atI_of {p : Md} {ds : List D} {vs : List V} {l : List Addr} {i : Int} {d : D} (r : Reps n.c M H p ds vs l) (h : atI ds i = some d) : ∃ v l', atI vs i = some v ∧ Rep n.c M H d v l' ∧ l'.Sublist l ∧ chOk p d.md = true := by
  unfold atI at h ⊢
  rw [r.len]
  obtain ⟨j, e1, e2⟩ := Option.bind_eq_some_iff.mp h
  obtain ⟨v, l', e3, r', hs, ck⟩ := r.get e2
  exact ⟨v, l', by rw [e1]; exact e3, r', hs, ck⟩
theorem wix : IxR X (WIx X) := fun val sl pins sh σ H x y v u Q I rx ry ⟨_, h, q⟩ e => h val sl pins sh σ H x y v u Q I rx ry q e
theorem ix_val (F : FX n X) {x y : D} {v u : V} {l1 l2 : List Addr} {Q : VK} {E : Nat → List D → Prop} (st : St0 M0 H0 M H) (rx : Rep n.c M H x v l1) (ry : Rep n.c M H y u l2) (f : ∀ a ∈ l1, H0 a = none) (nd : l1.Nodup)
    (hx : ∀ m ks ds, x ≠ .dic m ks ds) (h : PR (vIx x y) (PE1 n M0 H0 Q) E) : WIx X v u H Q := by
  unfold vIx at h
  split at h
  · obtain ⟨rfl, _⟩ := ry
    obtain ⟨d, hd, h⟩ := PR.ofOpt h
    obtain ⟨p, vs, l', rfl, nx, rr, el⟩ := rx
    obtain ⟨w, l3, e1, r3, hs, _⟩ := atI_of rr hd
    exact ⟨_, ix_list, p, vs, _, w, rfl, rfl, lst_sql F.K nx, e1, PE1.part h st r3 (hs.trans (by rw [el]; exact consO_sub _ _ _)) f nd⟩
  · obtain ⟨rfl, _⟩ := ry
    obtain ⟨d, hd, h⟩ := PR.ofOpt h
    obtain ⟨p, vs, l', rfl, nx, rr, el⟩ := rx
    obtain ⟨w, l3, e1, r3, hs, _⟩ := atI_of rr hd
    exact ⟨_, ix_tup, p, vs, _, w, rfl, rfl, tup_sqt F.K nx, e1, PE1.part h st r3 (hs.trans (by rw [el]; exact consO_sub _ _ _)) f nd⟩
  · obtain ⟨rfl, _⟩ := rx
    obtain ⟨rfl, _⟩ := ry
    obtain ⟨h1, h⟩ := PR.guard h
    obtain ⟨d, hd, h⟩ := PR.ofOpt h
    obtain ⟨c, hc, e⟩ := Option.map_eq_some_iff.mp hd
    subst e
    exact ⟨_, ix_str, _, _, c, rfl, rfl, of_decide_eq_true h1, hc, PE1.sc (d := .str _) h st ⟨rfl, rfl⟩⟩
  · next m ks ds k => exact absurd rfl (hx _ _ _)
  · exact False.elim h
theorem dget_val {m : Md} {ks : List Key} {ds : List D} {y : D} {v u : V} {l1 l2 : List Addr} {Q : VK} {E : Nat → List D → Prop} (st : St0 M0 H0 M H) (rx : Rep n.c M H (.dic m ks ds) v l1) (ry : Rep n.c M H y u l2) (f : ∀ a ∈ l1, H0 a = none) (nd : l1.Nodup)
    (h : PR (vIx (.dic m ks ds) y) (PE1 n M0 H0 Q) E) : ∃ a w, v = .ref a ∧ DGet H a u (some w) ∧ Q w H := by
  have h : PR (Res.ofOpt (y.key.bind fun k => atKeyD k ks ds)) (PE1 n M0 H0 Q) E := by
    unfold vIx at h
    split at h <;> first | (rename_i e; cases e; done) | (rename_i e _; cases e; done) | (rename_i e; cases e; exact h) | skip
    all_goals first | exact h | exact False.elim h
  obtain ⟨d, hd, h⟩ := PR.ofOpt h
  obtain ⟨k, hk, hd⟩ := Option.bind_eq_some_iff.mp hd
  obtain ⟨a, kvs, l', rfl, nx, ek, rr, el⟩ := rx
  obtain ⟨w, l3, e1, r3, hs, _⟩ := key_val ek rr hd
  exact ⟨a, w, rfl, .inl ⟨kvs, k, nx.2.1, rep_key ry hk, e1.symm⟩, PE1.part h st r3 (hs.trans (by rw [el]; exact consO_sub _ _ _)) f nd⟩
theorem se_ix (F : FX n X) {a b : Expr} {ta tb : Tm} {pos : Pos} (ha : SE n G X a ta) (hb : SE n G X b tb) (ho : okE b = true) : SE n G X (.Subscript a b pos) (.ix ta tb) := by
  intro W tk M s σ H Q R h
  unfold evalE at h
  by_cases hd : ∃ m ks ds, evalE G ta s = .ok (.dic m ks ds)
  · obtain ⟨m, ks, ds, hd⟩ := hd
    refine ⟨_, pe_dget F.hu1 we we (okE_ix ho), ?_⟩
    refine two' ha hb tk R (P := fun v u H' => ∃ a w, v = .ref a ∧ DGet H' a u (some w) ∧ Q w H') h fun x y v u M' H' l1 l2 ex ey st rx ry f nd hp => ?_
    rw [hd] at ex
    cases ex
    exact dget_val st rx ry (fun a ha => f a (by simp [ha])) (List.nodup_append.mp nd).1 hp
  · refine ⟨_, pe_ix wix we we (okE_ix ho), ?_⟩
    exact two' ha hb tk R h fun x y v u M' H' l1 l2 ex ey st rx ry f nd hp => ix_val F st rx ry (fun a ha => f a (by simp [ha])) (List.nodup_append.mp nd).1 (fun m ks ds e => hd ⟨m, ks, ds, by rw [ex, e]⟩) hp

/-! ### slices -/
def WSl (X : Cx) : V → Option Int → Option Int → Hp → VK → Prop := fun x lo hi H Q => ∃ r, SlR X r ∧ r x lo hi H Q
theorem wsl : SlR X (WSl X) := fun pins sh σ H x v vl vu lo hi sl Q I rx hs pl pu ⟨_, h, q⟩ => h pins sh σ H x v vl vu lo hi sl Q I rx hs pl pu q
def SO (n : Env') (G : GE) (X : Cx) (e : Option Expr) (t : Option Tm) : Prop := match e, t with
  | none, none => True
  | some e, some t => SE n G X e t
  | _, _ => False
def WO (X : Cx) (e : Option Expr) : TO := fun σ H Q => ∃ t, PO X e t ∧ t σ H Q
theorem wo {e : Option Expr} : PO X e (WO X e) := ⟨fun pins sh σ H Q I ⟨_, h, q⟩ => h.run pins sh σ H Q I q⟩
theorem so_run {e : Option Expr} {t : Option Tm} (h : SO n G X e t) (tk : Takes X W) (R : RelS n.c M s σ H) {Q : Option Int → Hp → Prop} (hq : PR (evalO G t s) (fun o => ∀ M' H', St0 M H M' H' → Q o H') (PX n M H fun cls d H' => W cls d σ H')) : WO X e σ H Q := by
  cases e with
  | none =>
    cases t with
    | none => exact ⟨_, po_none, by unfold evalO at hq; exact hq M H (St0.refl R.dom)⟩
    | some t => exact False.elim h
  | some e =>
    cases t with
    | none => exact False.elim h
    | some t =>
      unfold evalO at hq
      refine ⟨_, po_some we, ?_⟩
      refine h W tk M s σ H _ R (hq.bind.imp (fun x ex hx v M1 H1 l1 s1 r1 f1 n1 => ?_) fun _ _ q => q)
      cases x with
      | int i =>
        obtain ⟨rfl, _⟩ := r1
        exact ⟨i, rfl, hx M1 H1 s1⟩
      | _ => exact False.elim hx
theorem cut_len (ds : List D) (vs : List V) (lo hi : Option Int) (h : vs.length = ds.length) : cutV vs lo hi = (vs.drop (HT.sIx ds.length 0 lo)).take (HT.sIx ds.length ds.length hi - HT.sIx ds.length 0 lo) := by
  unfold cutV; rw [h]
theorem sl_val (F : FX n X) {x : D} {v : V} {lo hi : Option Int} {l1 : List Addr} {Q : VK} {E : Nat → List D → Prop} (st : St0 M0 H0 M H) (rx : Rep n.c M H x v l1) (f : ∀ a ∈ l1, H0 a = none)
    (h : PR (vSlc x lo hi) (PE1 n M0 H0 Q) E) : WSl X v lo hi H Q := by
  cases x with
  | lst m ds =>
    obtain ⟨hc, h⟩ := PR.guard (show PR (Res.guard ((cutD ds lo hi).all D.cl) (Res.ok (D.lst .own (D.own2s .fz (cutD ds lo hi))))) (PE1 n M0 H0 Q) E from h)
    obtain ⟨p, vs, l', rfl, nx, rr, el⟩ := rx
    refine ⟨_, sl_list, p, vs, rfl, lst_sql F.K nx, fun q hq => ?_⟩
    rw [cut_len ds vs lo hi rr.len]
    obtain ⟨l2, r2, h2⟩ := Reps.drop (HT.sIx ds.length 0 lo) rr
    obtain ⟨l3, r3, h3⟩ := Reps.take (HT.sIx ds.length ds.length hi - HT.sIx ds.length 0 lo) r2
    exact new_lst st r3 hc (fun a ha => f a (by rw [el]; exact mem_consO.mpr (.inr (h2 a (h3 a ha))))) h q hq
  | str z =>
    obtain ⟨rfl, _⟩ := rx
    obtain ⟨h1, h⟩ := PR.guard (show PR (Res.guard (decide (z.length ≤ sizeLine)) (Res.ok (D.str (cutS z lo hi)))) (PE1 n M0 H0 Q) E from h)
    exact ⟨_, sl_str, _, rfl, of_decide_eq_true h1, PE1.sc (d := .str _) h st ⟨rfl, rfl⟩⟩
  | _ => exact False.elim h
theorem se_slc (F : FX n X) {a : Expr} {lo hi : Option Expr} {ta : Tm} {tl th : Option Tm} {p2 pos : Pos} (ha : SE n G X a ta) (hl : SO n G X lo tl) (hh : SO n G X hi th) : SE n G X (.Subscript a (.Slice lo hi none p2) pos) (.slc ta tl th) := by
  intro W tk M s σ H Q R h
  unfold evalE at h
  refine ⟨_, pe_slice wsl we wo wo, ?_⟩
  refine ha W tk M s σ H _ R (h.bind.imp (fun x ex hx v M1 H1 l1 s1 r1 f1 n1 => ?_) fun _ _ q => q)
  refine so_run hl tk (R.step s1) (hx.bind.imp (fun o eo ho M2 H2 s2 => ?_) fun _ _ q => q.step s1)
  refine so_run hh tk (R.step (s1.trans s2)) (ho.bind.imp (fun o' eo' ho' M3 H3 s3 => ?_) fun _ _ q => q.step (s1.trans s2))
  exact sl_val F (s1.trans (s2.trans s3)) (r1.step s1.d (s2.trans s3)) f1 ho'

/-! ### displays -/
theorem se_lst {es : List Expr} {ts : List Tm} {pos : Pos} (ha : All2 (OkSE n G X) es ts) : SE n G X (.List es pos) (.lst ts) := by
  intro W tk M s σ H Q R h
  unfold evalE at h
  refine ⟨_, pe_lst wa, sa_of ha W tk M s σ H _ R (h.bind.imp (fun ds ed hd vs M1 H1 l s1 ra f1 n1 => ?_) fun _ _ q => q)⟩
  obtain ⟨hc, hd⟩ := PR.guard hd
  rw [Bool.and_eq_true, decide_eq_true_eq] at hc
  exact ⟨by rw [ra.len]; exact hc.2, fun p hp => new_lstO s1 (ra.to hc.1) f1 n1 hd p hp⟩
theorem se_tup {es : List Expr} {ts : List Tm} {k : Nat} {pos : Pos} (ha : All2 (OkSE n G X) es ts) : SE n G X (.Tuple es k pos) (.tup ts) := by
  intro W tk M s σ H Q R h
  unfold evalE at h
  refine ⟨_, pe_tup wa, sa_of ha W tk M s σ H _ R (h.bind.imp (fun ds ed hd vs M1 H1 l s1 ra f1 n1 => ?_) fun _ _ q => q)⟩
  obtain ⟨hc, hd⟩ := PR.guard hd
  rw [Bool.and_eq_true, decide_eq_true_eq] at hc
  exact ⟨by rw [ra.len]; exact hc.2, fun p hp => new_tupO s1 (ra.to hc.1) f1 n1 hd p hp⟩
theorem se_dct0 {pos : Pos} : SE n G X (.Dict [] [] pos) (.dct [] []) := by
  intro W tk M s σ H Q R h
  unfold evalE evalL at h
  refine ⟨_, pe_dnewK, fun p hp => ?_⟩
  exact h (.ref p) _ _ [p] (St0.lay (m := .own) (o := .dK []) R.dom hp) ⟨p, [], [], rfl, ⟨layM_same, .inl upd_same, fun _ => upd_same⟩, rfl, ⟨rfl, rfl⟩, rfl⟩ (fun a ha => by rw [List.mem_singleton.mp ha]; exact hp) (by simp)
end
end GS

namespace GS
open PySem PySem.Spec PyProof.Rows L2

section
variable {n : Env'} {G : GE} {X : Cx} {W : WX} {M M0 M1 : MM} {H H0 H1 : Hp} {s : Sl} {σ : L2.St}

/-! ### calls of built-ins -/
def bltV : Blt → Value
  | .len => .builtin "len"
  | .abs => .builtin "abs"
  | .min2 => .builtin "min"
  | .max2 => .builtin "max"
  | .any => .builtin "any"
  | .all => .builtin "all"
  | .str => .type "str"
  | .int => .type "int"
  | .list => .type "list"
  | .tuple => .type "tuple"
  | .dict => .type "dict"
  | .lenset => .none
  | .sorted => .builtin "sorted"
def bltN : Blt → Str
  | .len => "len"
  | .abs => "abs"
  | .min2 => "min"
  | .max2 => "max"
  | .any => "any"
  | .all => "all"
  | .str => "str"
  | .int => "int"
  | .list => "list"
  | .tuple => "tuple"
  | .dict => "dict"
  | .lenset => ""
  | .sorted => "sorted"
theorem call_lenRd : CallR X (.builtin "len") (fun xs H Q => ∃ a kvs, xs = [V.ref a] ∧ Rd H a (.dK kvs) ∧ Q (.int kvs.length) H) := by
  intro pins sh σ H xs us Q I r ⟨a, kvs, e, rd, q⟩
  subst e
  obtain ⟨u, rfl, ru⟩ := vals1 r
  obtain rfl : u = Value.ref a := ru
  exact d_len I rd fun t s' I' => ⟨.int kvs.length, H, I', ⟨t, rfl⟩, q⟩
theorem call_dictRd : CallR X (.type "dict") (fun xs H Q => ∃ a kvs, xs = [V.ref a] ∧ Rd H a (.dK kvs) ∧ ∀ p, H p = none → Q (.ref p) (upd H p (.dK kvs))) := by
  intro pins sh σ H xs us Q I r ⟨a, kvs, e, rd, q⟩
  subst e
  obtain ⟨u, rfl, ru⟩ := vals1 r
  obtain rfl : u = Value.ref a := ru
  exact d_copyOf I rd fun p s' hp I' => ⟨.ref p, _, I', rfl, q p hp⟩
theorem call_listRd (hc : X.calm = true) : CallR X (.type "list") (fun xs H Q => ∃ a kvs, xs = [V.ref a] ∧ Rd H a (.dK kvs) ∧ ∀ q, H q = none → Q (.ref q) (upd H q (.lst ((kvs.map (·.1)).map kV)))) := by
  intro pins sh σ H xs us Q I r ⟨a, kvs, e, rd, k⟩
  subst e
  obtain ⟨u, rfl, ru⟩ := vals1 r
  obtain rfl : u = Value.ref a := ru
  obtain ⟨hz, lo, vs, kv, hd⟩ := dk_rd I.hok rd
  obtain ⟨ep, hat⟩ := hd.dictAt
  have lk : kvs.length = vs.length := Paired.length kv
  refine PySem.W.kdl_call (PySem.W.kdl_dict (knd := mixKind X.prog X.w) (kvs := vs) (ep := ep) lo) (I.ok.hd hc) hat (by omega) fun h' tk acc c hk hS hacc => ?_
  have lv : Vals ((kvs.map (·.1)).map kV) acc.toList := by
    refine vals_of_at (by simp [hacc.1, lk]) fun j x w h1 h2 => ?_
    obtain ⟨q, y, h3, h4⟩ := hacc.2 j w (by rw [← Array.getElem?_toList]; exact h2)
    have e1 : (kvs.map (·.1))[j]? = some q := by rw [KV.keys kv, List.getElem?_map, h3]; rfl
    rw [List.getElem?_map, e1] at h1
    cases h1
    exact keyIs_rel h4
  exact ⟨.ref sh.heap.objs.size, _, I.laid (a := sh.heap.objs.size) (o := .lst ((kvs.map (·.1)).map kV)) hk (Nat.le_refl _) ⟨by simp; exact hz, acc.toList, c, lv, by rw [Array.toArray_toList]; exact hS⟩, rfl, k _ (I.hok.fresh (Nat.le_refl _))⟩
theorem reps_keys : ∀ (ks : List Key), Reps n.c M H .own (ks.map keyD) (ks.map kV) []
  | [] => ⟨rfl, rfl⟩
  | .inl i :: ks => ⟨_, _, [], [], rfl, rfl, ⟨rfl, rfl⟩, reps_keys ks, rfl⟩
  | .inr x :: ks => ⟨_, _, [], [], rfl, rfl, ⟨rfl, rfl⟩, reps_keys ks, rfl⟩
theorem new_dic {p : Md} {ds : List D} {kvs : List (Key × V)} {l : List Addr} {Q : VK} (st : St0 M0 H0 M H) (r : Reps n.c M H p ds (kvs.map (·.2)) l) (hc : ds.all D.cl = true) (f : ∀ a ∈ l, H0 a = none) (h : PE1 n M0 H0 Q (.dic .own (kvs.map (·.1)) (D.own2s .fz ds))) (q : Addr) (hq : H q = none) : Q (.ref q) (upd H q (.dK kvs)) := by
  have ow := Reps.owns ds r
  have r1 := Reps.frz (L := l) r hc (fun _ z => z) (fun a z => (ow a z).1)
  have d1 := Dom.frz st.d (fun a z => (ow a z).1) (L := l)
  have s1 := st0_frz st f (fun a z => (ow a z).2)
  refine h _ _ _ [q] (s1.trans (St0.lay (m := .own) (o := .dK kvs) d1 hq)) ?_ (fun a ha => ?_) (by simp)
  · exact ⟨q, kvs, [], rfl, ⟨layM_same, .inl upd_same, fun _ => upd_same⟩, rfl, (r1.step d1 (St0.lay d1 hq)).under, rfl⟩
  · have : a = q := by simpa using ha
    subst this
    exact st.fresh hq
theorem reps_bl {p : Md} : ∀ {ds : List D} {vs : List V} {bs : List Bool} {l : List Addr}, Reps n.c M H p ds vs l → allBl ds = some bs → vs = bs.map V.bl
  | [], _, _, _, r, e => by cases e; exact r.1
  | d :: ds, vs, bs, _, r, e => by
    obtain ⟨v, vs', l1, l2, rfl, ck, r1, r2, _⟩ := r
    cases d with
    | bl b =>
      unfold allBl at e
      obtain ⟨cs, ec, e⟩ := Option.map_eq_some_iff.mp e
      subst e
      rw [reps_bl r2 ec, r1.1]; rfl
    | _ => cases e
theorem RepA.one {d : D} {vs : List V} {l : List Addr} (r : RepA n.c M H [d] vs l) : ∃ v, vs = [v] ∧ Rep n.c M H d v l := by
  obtain ⟨v, vs', l1, l2, e, r1, r2, hl⟩ := r
  have e2 : vs' = [] := r2.1
  have e3 : l2 = [] := r2.2
  subst e2 e3
  exact ⟨v, e, by rw [hl, List.append_nil]; exact r1⟩
theorem RepA.two {d d' : D} {vs : List V} {l : List Addr} (r : RepA n.c M H [d, d'] vs l) : ∃ v u l1 l2, vs = [v, u] ∧ Rep n.c M H d v l1 ∧ Rep n.c M H d' u l2 ∧ l = l1 ++ l2 := by
  obtain ⟨v, vs', l1, l2, e, r1, r2, hl⟩ := r
  obtain ⟨u, e2, r3⟩ := RepA.one r2
  exact ⟨v, u, l1, l2, by rw [e, e2], r1, r3, hl⟩
theorem blt_val (F : FXc n X) {b : Blt} {ds : List D} {vs : List V} {l : List Addr} {Q : VK} {E : Nat → List D → Prop} (st : St0 M0 H0 M H) (ra : RepA n.c M H ds vs l) (f : ∀ a ∈ l, H0 a = none) (h : PR (vBlt b ds) (PE1 n M0 H0 Q) E) : WCall X (bltV b) vs H Q := by
  unfold vBlt at h
  split at h
  · obtain ⟨v, rfl, a, us, l', rfl, nx, rr, _⟩ := ra.one
    exact ⟨_, call_len_seq, a, us, rfl, .inl (lst_sql F.K nx), by rw [rr.len]; exact PE1.sc (d := .int _) h st ⟨rfl, rfl⟩⟩
  · obtain ⟨v, rfl, a, us, l', rfl, nx, rr, _⟩ := ra.one
    exact ⟨_, call_len_seq, a, us, rfl, .inr (tup_sqt F.K nx), by rw [rr.len]; exact PE1.sc (d := .int _) h st ⟨rfl, rfl⟩⟩
  · obtain ⟨v, rfl, a, kvs, l', rfl, nx, ek, rr, _⟩ := ra.one
    refine ⟨_, call_lenRd, a, kvs, rfl, nx.2.1, ?_⟩
    have e : kvs.length = (kvs.map (·.1)).length := by simp
    rw [e, ek]; exact PE1.sc (d := .int _) h st ⟨rfl, rfl⟩
  · obtain ⟨v, rfl, rfl, _⟩ := ra.one
    obtain ⟨h1, h⟩ := PR.guard h
    exact ⟨_, call_len_str, _, rfl, of_decide_eq_true h1, PE1.sc (d := .int _) h st ⟨rfl, rfl⟩⟩
  · obtain ⟨v, rfl, rfl, _⟩ := ra.one
    exact ⟨_, call_abs, _, rfl, PE1.sc (d := .int _) h st ⟨rfl, rfl⟩⟩
  · obtain ⟨v, u, l1, l2, rfl, ⟨rfl, _⟩, ⟨rfl, _⟩, _⟩ := ra.two
    exact ⟨_, call_min2 F.calm, _, _, rfl, PE1.sc (d := .int _) h st ⟨rfl, rfl⟩⟩
  · obtain ⟨v, u, l1, l2, rfl, ⟨rfl, _⟩, ⟨rfl, _⟩, _⟩ := ra.two
    exact ⟨_, call_max2 F.calm, _, _, rfl, PE1.sc (d := .int _) h st ⟨rfl, rfl⟩⟩
  · obtain ⟨v, rfl, rfl, _⟩ := ra.one
    obtain ⟨h1, h⟩ := PR.guard h
    exact ⟨_, call_str_int, _, rfl, of_decide_eq_true h1, PE1.sc (d := .str _) h st ⟨rfl, rfl⟩⟩
  · obtain ⟨v, rfl, rfl, _⟩ := ra.one
    exact ⟨_, call_int1, .inl ⟨_, rfl, PE1.sc (d := .int _) h st ⟨rfl, rfl⟩⟩⟩
  · obtain ⟨v, rfl, rfl, _⟩ := ra.one
    exact ⟨_, call_int1, .inr ⟨_, rfl, PE1.sc (d := .int _) h st ⟨rfl, rfl⟩⟩⟩
  · split at h
    · next z he =>
      obtain ⟨v, rfl, rfl, _⟩ := ra.one
      obtain ⟨h1, h⟩ := PR.guard h
      exact ⟨_, call_int_str, _, _, rfl, he, of_decide_eq_true h1, PE1.sc (d := .int _) h st ⟨rfl, rfl⟩⟩
    · exact False.elim h
  · obtain ⟨hc, h⟩ := PR.guard h
    obtain ⟨v, rfl, a, us, l', rfl, nx, rr, el⟩ := ra.one
    exact ⟨_, call_list_of, a, us, rfl, .inl (lst_sql F.K nx), fun q hq => new_lst st rr hc (fun b hb => f b (by rw [el]; exact mem_consO.mpr (.inr hb))) h q hq⟩
  · obtain ⟨hc, h⟩ := PR.guard h
    obtain ⟨v, rfl, a, us, l', rfl, nx, rr, el⟩ := ra.one
    exact ⟨_, call_list_of, a, us, rfl, .inr (tup_sqt F.K nx), fun q hq => new_lst st rr hc (fun b hb => f b (by rw [el]; exact mem_consO.mpr (.inr hb))) h q hq⟩
  · next m ks ds =>
    obtain ⟨v, rfl, a, kvs, l', rfl, nx, ek, rr, el⟩ := ra.one
    refine ⟨_, call_listRd F.calm, a, kvs, rfl, nx.2.1, fun q hq => ?_⟩
    rw [ek]
    exact new_lstO st (reps_keys ks) (fun _ z => nomatch z) .nil h q hq
  · obtain ⟨hc, h⟩ := PR.guard h
    obtain ⟨v, rfl, a, kvs, l', rfl, nx, ek, rr, el⟩ := ra.one
    subst ek
    exact ⟨_, call_dictRd, a, kvs, rfl, nx.2.1, fun q hq => new_dic st rr hc (fun b hb => f b (by rw [el]; exact mem_consO.mpr (.inr hb))) h q hq⟩
  · obtain ⟨d, hd, h⟩ := PR.ofOpt h
    obtain ⟨bs, hb, e⟩ := Option.map_eq_some_iff.mp hd
    subst e
    obtain ⟨v, rfl, a, us, l', rfl, nx, rr, el⟩ := ra.one
    exact ⟨_, cr_any F.calm, a, bs, rfl, by rw [← reps_bl rr hb]; exact lst_sql F.K nx, PE1.sc (d := .bl _) h st ⟨rfl, rfl⟩⟩
  · obtain ⟨d, hd, h⟩ := PR.ofOpt h
    obtain ⟨bs, hb, e⟩ := Option.map_eq_some_iff.mp hd
    subst e
    obtain ⟨v, rfl, a, us, l', rfl, nx, rr, el⟩ := ra.one
    exact ⟨_, cr_all F.calm, a, bs, rfl, by rw [← reps_bl rr hb]; exact lst_sql F.K nx, PE1.sc (d := .bl _) h st ⟨rfl, rfl⟩⟩
  · exact False.elim h
theorem notName : ∀ b : Blt, bltN b ≠ "__name__" := by intro b; cases b <;> decide +kernel
theorem notDebug : ∀ b : Blt, (bltN b == ("__debug__" : Str)) = false := by intro b; cases b <;> decide +kernel
def bltF (b : Blt) : Bool := match b with
  | .lenset => false
  | _ => true
theorem boot_blt : ∀ b : Blt, bltF b = true → bootBuiltins (bltN b) = some (bltV b) := by intro b h; cases b <;> first | (cases h; done) | decide +kernel
theorem wcall_pe {b : Blt} (hb : bltF b = true) {p pos : Pos} {e : Expr} {es : List Expr} {t : TA} (hg : Gl X (bltN b)) (hm : X.mg (bltN b) = none) (ha : PA X (e :: es) t) (ho : ∀ q ∈ e :: es, okE q = true) : PE X (.Call (.Name (bltN b) p) (e :: es) [] pos) (tCB (WCall X (bltV b)) t) := by
  have h1 := okE_star (ho e (by simp)) es X.env
  have h2 : (backTo pos (starEach es X.env)).any (·.1) = false := noStar fun x hx => ho x (by simp [hx])
  have h3 := notName b
  have h4 := notDebug b
  have h5 := boot_blt b hb
  cases b <;> first | (cases hb; done) | exact pe_callB wcall hg hm h5 ha h3 h4 h1 h2 | exact pe_callTy wcall hg hm h5 ha h3 h4 h1 h2
theorem se_blt (F : FXc n X) {b : Blt} (hb : bltF b = true) {x : Str} {p pos : Pos} {es : List Expr} {ts : List Tm} (hx : x = bltN b) (hg : Gl X x) (hm : X.mg x = none) (ha : All2 (OkSE n G X) es ts) (h0 : es ≠ []) : SE n G X (.Call (.Name x p) es [] pos) (.blt b ts) := by
  intro W tk M s σ H Q R h
  unfold evalE at h
  subst hx
  cases es with
  | nil => exact absurd rfl h0
  | cons e es =>
    refine ⟨_, wcall_pe hb hg hm wa (All2.ok ha), sa_of ha W tk M s σ H _ R (h.bind.imp (fun ds ed hd vs M1 H1 l s1 ra f1 n1 => ?_) fun _ _ q => q)⟩
    exact blt_val F s1 ra f1 hd

/-! ### d.get(k, x), d.get(k) -/
theorem get_form {o : Expr} {m : Str} {apos cpos : Pos} {e f : Expr} (h1 : methForm o = true) (hl : (apos.endLine == cpos.line) = true) (he : okE e = true) (hf : okE f = true) : M2 X o m apos e f cpos where
  base := base_of h1 _ _ _
  few := by
    rw [okE_star he, okE_star hf]
    rfl
  line := hl
  trees := by rw [okE_star he, okE_star hf]; rfl
theorem se_get2 (F : FX n X) {o e f : Expr} {to te tf : Tm} {apos cpos : Pos} (ho : SE n G X o to) (he : SE n G X e te) (hf : SE n G X f tf) (h1 : methForm o = true) (hl : (apos.endLine == cpos.line) = true) (oe : okE e = true) (of_ : okE f = true) :
    SE n G X (.Call (.Attribute o "get" apos) [e, f] [] cpos) (.bmt .get2 to [te, tf]) := by
  intro W tk M s σ H Q R h
  unfold evalE at h
  refine ⟨_, pe_dget2 F.hu1 we we we (get_form h1 hl oe of_), ?_⟩
  refine ho W tk M s σ H _ R (h.bind.imp (fun x ex hx v M1 H1 l1 s1 r1 f1 n1 => ?_) fun _ _ q => q)
  obtain ⟨hg, hx⟩ := PR.guard hx
  unfold evalL at hx
  unfold evalL at hx
  unfold evalL at hx
  cases x with
  | dic m ks ds =>
    have r1' := r1
    obtain ⟨a, kvs, l', rfl, nx, ek, rr, el⟩ := r1
    refine ⟨a, rfl, .inl ⟨kvs, nx.2.1⟩, ?_⟩
    refine he W tk M1 s σ H1 _ (R.step s1) (hx.bind.bind.imp (fun k ke hk u M2 H2 l2 s2 r2 f2 n2 => ?_) fun _ _ q => q.step s1)
    refine hf W tk M2 s σ H2 _ (R.step (s1.trans s2)) (hk.bind.bind.imp (fun y ye hy w M3 H3 l3 s3 r3 f3 n3 => ?_) fun _ _ q => q.step (s1.trans s2))
    have hy : PR ((vKey k).bind fun k => (.ok ((atKeyD k ks ds).getD y) : Res D)) (PE1 n M H Q) (PX n M H fun cls d H' => W cls d σ H') := hy
    have st := s1.trans (s2.trans s3)
    have r1'' := (r1'.step s1.d (s2.trans s3))
    obtain ⟨a', kvs', l'', ea, nx', ek', rr', el'⟩ := r1''
    cases ea
    cases hk2 : vKey k with
    | stuck => rw [hk2] at hy; exact False.elim hy
    | ex c xs =>
      unfold vKey at hk2
      split at hk2 <;> cases hk2
    | ok q =>
      rw [hk2] at hy
      have hy : PE1 n M H Q ((atKeyD q ks ds).getD y) := hy
      have ekq : k.key = some q := by
        unfold vKey at hk2
        unfold D.key
        split at hk2 <;> cases hk2 <;> rfl
      refine ⟨valV kvs' q, .inl ⟨kvs', q, nx'.2.1, rep_key (r2.step s2.d s3) ekq, rfl⟩, ?_⟩
      cases hat : atKeyD q ks ds with
      | some d =>
        rw [hat] at hy
        obtain ⟨w', l4, e1, r4, hs, _⟩ := key_val ek' rr' hat
        rw [e1]
        exact PE1.part hy st r4 (hs.trans (by rw [el']; exact consO_sub _ _ _)) f1 n1
      | none =>
        rw [hat] at hy
        rw [key_no ek' rr' hat]
        exact PE1.old hy st r3 (fun b hb => (s1.trans s2).fresh (f3 b hb)) n3
  | _ => cases hg
end
end GS

namespace GS
open PySem PySem.Spec PyProof.Rows L2

/-! ## list(d.values()) -/
section
variable {n : Env'} {G : GE} {X : Cx} {W : WX} {M M0 M1 : MM} {H H0 H1 : Hp} {s : Sl} {σ : L2.St}
def valsOb (d : Addr) : Obj := { cls := .type "dict_values", data := .fields #[.ref d] }
def valsO (p d : Addr) : HO := .ext fun h => h.get? p = some (valsOb d)
theorem valsO_ok {P : Program} {w : World} {H : Hp} {h : Heap} {p d : Addr} (e : h.get? p = some (valsOb d)) : ObjOk P w H h p (valsO p d) := ⟨e, ⟨_, e⟩, fun h1 h2 q k => k _ q⟩
theorem pe_valsK {e : Expr} {te : TE} {apos cpos : Pos} (he : PE X e te) (hbase : attributeBase e "values" X.env (eval e X.env) = eval e X.env) (hline : (apos.endLine == cpos.line) = true) :
    PE X (.Call (.Attribute e "values" apos) [] [] cpos) (fun σ H Q => te σ H fun x H1 => ∃ a kvs, x = .ref a ∧ Rd H1 a (.dK kvs) ∧ ∀ p, H1 p = none → Q (.ref p) (upd H1 p (valsO p a))) := by
  refine ⟨fun pins s σ H R I h => ?_⟩
  refine wpAny_Call_method (T := "dict") (id := "dict.values") hbase rfl hline F.plainAttrs_dict F.slot_dict_values F.type_dict_values (thn (he.run pins s σ H _ I h) fun u s1 ⟨x, H1, I1, rx, d, kvs, ex, rd, q⟩ => ?_)
  subst ex
  obtain rfl : u = Value.ref d := rx
  obtain ⟨hz, lo, vs, kv, hd⟩ := dk_rd I1.hok rd
  obtain ⟨ep, hm⟩ := hd.dictAt
  refine ⟨hm.dictOf.typeIs, hm.dictOf.mapOf.noDict, ?_⟩
  have fin : EP X pins σ R (.ref s1.heap.objs.size) { s1 with heap := s1.heap.push (valsOb d) } :=
    ⟨.ref s1.heap.objs.size, _, I1.laid (t' := s1.toks) (fun b o q => Heap.get?_push_of_some _ q) (Nat.le_refl _) (valsO_ok (Heap.get?_push_size _ rfl)), rfl, q _ (I1.hok.fresh (Nat.le_refl _))⟩
  show wpAny _ _ (callWith cpos (.builtin "dict.values") [.ref d] [] []) _ X.xe s1
  exact method_meetsIn F.slot_dict_values F.entry_dict_values rfl (PySem.evalArgs_none ⟨rfl, hm.dictOf.typeIs, F.args_dict_values_1 _, _, meets_dict_values (mixKind X.prog X.w) d lo, ⟨vs, hm.dictOf⟩, fin⟩)
theorem kv_at {kvs : List (Key × V)} {vs : List (Key × Value)} (r : KV kvs vs) : ∀ {j : Nat} {k : Key} {w : Value}, vs[j]? = some (k, w) → ∃ x, kvs[j]? = some (k, x) ∧ RelV x w := by
  induction r with
  | nil => intro j k w h; cases h
  | cons h _ ih =>
    intro j k w e
    cases j with
    | zero =>
      cases e
      rename_i p _ _ _
      exact ⟨p.2, by obtain ⟨h1, _⟩ := h; dsimp only at h1; subst h1; rfl, h.2⟩
    | succ j => exact ih (by simpa using e)
theorem call_listVals (hc : X.calm = true) : CallR X (.type "list") (fun xs H Q => ∃ p a kvs, xs = [V.ref p] ∧ H p = some (valsO p a) ∧ Rd H a (.dK kvs) ∧ ∀ q, H q = none → Q (.ref q) (upd H q (.lst (kvs.map (·.2))))) := by
  intro pins sh σ H xs us Q I r ⟨p, a, kvs, e, hp, rd, k⟩
  subst e
  obtain ⟨u, rfl, ru⟩ := vals1 r
  obtain rfl : u = Value.ref p := ru
  obtain ⟨hz, lo, vs, kv, hd⟩ := dk_rd I.hok rd
  obtain ⟨ep, hat⟩ := hd.dictAt
  have hv : sh.heap.get? p = some (valsOb a) := (show ObjOk X.prog X.w H sh.heap p (valsO p a) from I.hok p _ hp).1
  have lk : kvs.length = vs.length := Paired.length kv
  refine PySem.W.kdl_call (PySem.W.kdl_values (knd := mixKind X.prog X.w) (kvs := vs) (ep := ep) (r := p) (d := a)) (I.ok.hd hc) ⟨⟨_, hv, rfl, rfl⟩, hat⟩ (by omega) fun h' tk acc c hk hS hacc => ?_
  have lv : Vals (kvs.map (·.2)) acc.toList := by
    refine vals_of_at (by simp [hacc.1, lk]) fun j x w h1 h2 => ?_
    obtain ⟨q, h3⟩ := hacc.2 j w (by rw [← Array.getElem?_toList]; exact h2)
    obtain ⟨y, h4, ry⟩ := kv_at kv h3
    rw [List.getElem?_map, h4] at h1
    cases h1
    exact ry
  exact ⟨.ref sh.heap.objs.size, _, I.laid (a := sh.heap.objs.size) (o := .lst (kvs.map (·.2))) hk (Nat.le_refl _) ⟨by simp; exact hz, acc.toList, c, lv, by rw [Array.toArray_toList]; exact hS⟩, rfl, k _ (I.hok.fresh (Nat.le_refl _))⟩
theorem se_lvals (F : FXc n X) {o : Expr} {to : Tm} {p pos apos cpos : Pos} (hg : Gl X "list") (hm : X.mg "list" = none) (ho : SE n G X o to) (h1 : methForm o = true) (hl : (apos.endLine == cpos.line) = true) :
    SE n G X (.Call (.Name "list" p) [.Call (.Attribute o "values" apos) [] [] cpos] [] pos) (.bmt .vals to []) := by
  intro W tk M s σ H Q R h
  unfold evalE evalL at h
  refine ⟨_, pe_callTy (call_listVals F.calm) hg hm (boot_blt .list rfl) (pa_cons (pe_valsK we (base_of h1 _ _ _) hl) pa_nil), ?_⟩
  refine ho W tk M s σ H _ R (h.bind.imp (fun x ex hx v M1 H1 l1 s1 r1 f1 n1 => ?_) fun _ _ q => q)
  obtain ⟨hg, hx⟩ := PR.guard hx
  cases x with
  | dic m ks ds =>
    obtain ⟨hc, hx⟩ := PR.guard (show PR (Res.guard (ds.all D.cl) (Res.ok (D.lst .own (D.own2s .fz ds)))) (PE1 n M H Q) (PX n M H fun cls d H' => W cls d σ H') from hx)
    obtain ⟨a, kvs, l', rfl, nx, ek, rr, el⟩ := r1
    refine ⟨a, kvs, rfl, nx.2.1, fun q hq => ?_⟩
    have sv : St0 M1 H1 M1 (upd H1 q (valsO q a)) := ⟨fun b hb => ⟨upd_ne (fun z => hb (by rw [z]; exact hq)), rfl⟩, fun b hb => by
      by_cases z : b = q
      · rw [z, upd_same]; simp
      · rw [upd_ne z]; exact s1.d b hb⟩
    have ha : H1 a ≠ none := by
      rcases nx.2.1 with z | ⟨_, z⟩ <;> (rw [z]; simp)
    have rd2 : Rd (upd H1 q (valsO q a)) a (.dK kvs) := by
      unfold Rd at *
      rw [upd_ne (fun z => ha (by rw [z]; exact hq))]
      exact nx.2.1
    exact ⟨q, a, kvs, rfl, upd_same, rd2, fun z hz => new_lst (s1.trans sv) (rr.step s1.d sv) hc (fun b hb => f1 b (by rw [el]; exact mem_consO.mpr (.inr hb))) hx z hz⟩
  | _ => cases hg
end
end GS

namespace GS
open PySem PySem.Spec PyProof.Rows L2

section
variable {n : Env'} {G : GE} {X : Cx} {W : WX} {M M0 M1 : MM} {H H0 H1 : Hp} {s : Sl} {σ : L2.St}

/-! ### isinstance of an exception, with or without its own dict -/
end
end GS
namespace PySem.W
open PySem PySem.Spec PySem.Calls PyProof.Rows
section
variable {prog : Program} {w : World} {A : Around} {E : Value → Shared → Prop} {K : Frag} {x D : Addr} {ox : Obj} {od : Option Obj}
theorem gs_fo {C : Addr} {nm : Str} {a g : Value} (ha : findIn K (.ref C) nm = some (some a)) (hc : (clsIn K C).isSome = true) (ht : takesIn K a = some true) (hg : specialIn K a "__get__" = some (some g)) : findObj K C od nm = some (.bind g a) := by
  obtain ⟨cd, hcd⟩ := Option.isSome_iff_exists.mp hc
  simp [findObj, hcd, ha, hg, ht]
/-- what the class D of an exception says -/
structure GsX (K : Frag) (D : Addr) : Prop where
  ga : findIn K (.ref D) "__getattribute__" = some (some (.builtin "BaseException.__getattribute__"))
  gt : findIn K (.ref D) "__getattr__" = some none
  sb : subIn K (.ref D) (.type "BaseException") = some true
  dc : hasDictIn K D = true
  cl : findIn K (.ref D) "__class__" = some (some (.builtin "object.__class__"))
  sp : specialIn K (.builtin "object.__class__") "__get__" = some (some (.builtin "getset_descriptor.__get__"))
  tk : takesIn K (.builtin "object.__class__") = some true
  mo : mroIn K D (.type "object") = some true
theorem gs_class {s : Shared} {Q : Option Value → Shared → Prop} (T : GsX K D) (X : K.In s.heap) (I : InstAt s.heap x ox D od) (h : Q (some (.ref D)) { s with toks := s.toks + 1 }) : wpAny (model prog w) A (getAttr? (.ref x) "__class__") Q E s := by
  have hf : findObj K D od "__class__" = some (.bind (.builtin "getset_descriptor.__get__") (.builtin "object.__class__")) :=
    gs_fo T.cl (by obtain ⟨cd, hc, _⟩ := any_some T.dc; rw [hc]; rfl) T.tk T.sp
  obtain ⟨hp, gn, dr, tk, oss⟩ := s
  have I0 := I.type (M := model prog w)
  have F1 := looks_findIn (M := model prog w) X T.ga
  have F2 := looks_findIn (M := model prog w) X T.gt
  have F3 := looks_find (M := model prog w) X I hf
  have isB : Looks (model prog w) hp (isInstance (.ref x) (.type "BaseException")) true := I0.andThen (looks_subIn X T.sb)
  have n1 : (Value.builtin "BaseException.__getattribute__" == Value.builtin "object.__getattribute__") = false := by decide +kernel
  have n2 : (onTheHeap (Value.ref D) && Value.builtin "BaseException.__getattribute__" == Value.builtin "object.__getattribute__") = false := by rw [n1]; rfl
  have n3 : (false && onTheHeap (Value.builtin "BaseException.__getattribute__")) = false := rfl
  unfold getAttr? getAttrBy? getAttrBy
  refine wpAny_bind (wpAny_mkText (wpAny_bind (wpAny_attempt (wpAny_holding (wpAny_bind (I0.at (wpAny_bind (F1.at ?_))))))))
  show wpAny _ _ (if (onTheHeap (Value.ref D) && Value.builtin "BaseException.__getattribute__" == Value.builtin "object.__getattribute__") = true then _ else _) _ _ _
  rw [n2, if_neg Bool.false_ne_true]
  unfold getAttrByItsOwn
  unfold hookBefore
  refine wpAny_bind ?_
  rw [if_pos (show onTheHeap (Value.ref D) = true from rfl)]
  refine F2.at (wpAny_bind (wpAny_attempt (wpAny_holding ?_)))
  unfold callGetattribute
  rw [n3, if_neg Bool.false_ne_true]
  unfold boundAndCalled
  rw [PySem.F.excAttr_ValueError.ga.bind (.ref x)]
  refine wpAny_bind (wpAny_pure ?_)
  show wpAny _ _ (call (.builtin "BaseException.__getattribute__") [.ref x, .str "__class__" tk]) _ _ _
  refine wpAny_call (codeAny_call_builtin PySem.F.excAttr_ValueError.ga.plain PySem.F.entry_bexc_ga ?_)
  refine @check_slot (model prog w) _ _ ⟨hp, gn, dr, tk + 1, oss⟩ "BaseException.__getattribute__" "BaseException" "__getattribute__" (.ref x) [.str "__class__" tk] [] _ (by decide +kernel) (by decide +kernel) isB (PySem.F.args_bexc_ga (.ref x) (.str "__class__" tk)) ?_
  unfold Builtin.«object.__getattribute__»
  refine wpAny_bind (wpAny_of_eq (a := ((Value.ref x : Value), [Value.str "__class__" tk])) (by first | rfl | (simp only [slotArgs]; rfl)) ?_)
  refine wpAny_bind (wpAny_pure (wpAny_bind (I0.at (wpAny_bind (F3.at ?_)))))
  show wpAny _ _ (holding [Value.builtin "object.__class__"] (call (.builtin "getset_descriptor.__get__") [.builtin "object.__class__", .ref x, .ref D]) >>= ret) _ _ _
  refine wpAny_bind (wpAny_holding (wpAny_call (class_get (s := ⟨hp, gn, dr, tk + 1, oss⟩) (ox := ox) (od := od) X I T.mo ?_)))
  refine wpAny_pure ?_
  show wpAny _ _ (handedOut (.ref D)) _ _ _
  rw [handedOut_of (v := .ref D) rfl]
  first
    | exact wpAny_pure h
    | exact wpAny_pure (wpAny_pure h)
    | exact wpAny_pure (wpAny_bind (wpAny_pure (wpAny_pure h)))
theorem gs_kitx (T : GsX K D) : KitX K (.ref x) (.ref D) (fun h => InstAt h x ox D od) where
  ty := fun _ _ _ I => I.type
  it := fun _ _ X _ => by
    obtain ⟨cd1, e1, _⟩ := any_some T.dc
    unfold clsIn at e1
    split at e1
    · rename_i c2 d2 cd2 sl2 ho
      intro A2 Q2 E2 s2 k q
      unfold isType loadHead
      exact wpAny_bind (wpAny_loadPart (k _ _ (X _ _ ho)) (wpAny_pure q))
    · cases e1
  ne := fun h tp dd its n sl X htp => by
    obtain ⟨cd1, e1, _⟩ := any_some T.dc
    refine Bool.eq_false_iff.mpr fun q => ?_
    have e : D = tp := Value.ref.inj (beq_iff_eq.mp q)
    subst e
    unfold clsIn at e1
    split at e1
    · rename_i c2 d2 cd2 sl2 ho
      cases (X _ _ ho).symm.trans htp
    · cases e1
  ca := fun X I k => gs_class T X I k
end
end PySem.W
namespace GS
open PySem PySem.Spec PyProof.Rows L2
section
variable {n : Env'} {G : GE} {X : Cx} {W : WX} {M M0 M1 : MM} {H H0 H1 : Hp} {s : Sl} {σ : L2.St}
/-- isinstance(e, c) of a caught exception -/
def rIsiX (K : PySem.W.Frag) : List V → Hp → VK → Prop := fun xs H Q => ∃ (a C : Addr) (dx : Option Addr) (c : V) (u : Value) (b : Bool), xs = [.ref a, c] ∧ ClsV c u ∧ PySem.W.GsX K C ∧ H a = some (exR (.ref C) dx a) ∧
  (∀ d, dx = some d → ∃ fs, H d = some (.xd fs)) ∧ PySem.W.kitOne K (.ref C) u = some b ∧ Q (.bl b) H
theorem call_isiX : CallR X (.builtin "isinstance") (rIsiX X.K) := by
  intro pins s σ H xs us Q I r h
  obtain ⟨a, C, dx, c, u, b, rfl, k, T, ha, hd, e, q⟩ := h
  obtain ⟨u1, u2, rfl, r1, r2⟩ := vals2 r
  have e2 := k.eq r2
  subst e2
  obtain rfl : u1 = Value.ref a := r1
  obtain ⟨oe, vs, hg, hz, hv⟩ := exR_at I.hok ha
  have J : ∃ od, PySem.W.InstAt s.heap a oe C od := by
    cases dx with
    | none => exact ⟨none, hg, hz.1, by unfold PySem.W.notCls; rw [hv] <;> rfl, by rw [hz.2]; trivial⟩
    | some d =>
      obtain ⟨fs, hx⟩ := hd d rfl
      obtain ⟨mA, hns, _⟩ := (show ObjOk X.prog X.w H s.heap d (.xd fs) from I.hok d _ hx)
      obtain ⟨od, ho, _⟩ := lookIn_ns hns
      exact ⟨some od, hg, hz.1, by unfold PySem.W.notCls; rw [hv] <;> rfl, by rw [hz.2]; exact ho⟩
  obtain ⟨od, J⟩ := J
  exact PySem.W.kia_one (PySem.W.gs_kitx T) I.kIn J e (fun z => nomatch z) fun tk => ⟨.bl b, H, I.tok tk, rfl, q⟩
theorem gsx_of (F : FC n G X) {k : Nat} (h : xcB G.sub k = true) : PySem.W.GsX X.K (n.c.ca k) := by
  have hs : G.sub k ≠ [] := fun e => by unfold xcB at h; rw [e] at h; simp at h
  obtain ⟨T, _⟩ := F.xk k h
  obtain ⟨_, h2, h3, _⟩ := F.ity k hs
  exact ⟨T.ga, T.gg, T.ex, T.hd, h2, (F.itk ⟨k, hs⟩).1, (F.itk ⟨k, hs⟩).2, h3⟩
/-! ### isinstance -/
def tyV' (n : Env') : String ⊕ Nat → Value
  | .inl T => .type T
  | .inr k => .ref (n.c.ca k)
theorem rep_ty (F : FC n G X) {d : D} {v : V} {l : List Addr} (r : Rep n.c M H d v l) (hs : ∀ k, d.ty = .inr k → G.sub k ≠ []) (hx : ∀ k, d.ty = .inr k → n.c.xc k = false) : TyX X.K H v (tyV' n d.ty) := by
  cases d with
  | non => obtain ⟨rfl, _⟩ := r; exact .base .non
  | bl b => obtain ⟨rfl, _⟩ := r; exact .base (.bl b)
  | int i => obtain ⟨rfl, _⟩ := r; exact .base (.int i)
  | str x => obtain ⟨rfl, _⟩ := r; exact .base (.str x)
  | tup m ds =>
    obtain ⟨a, vs, l', rfl, nx, _⟩ := r
    rcases nx with nx | ⟨_, o, its, k, h1, h2, _⟩
    · exact .base (.tup nx.2)
    · exact .kTuple (by rw [← F.K]; exact h1) h2
  | lst m ds =>
    obtain ⟨a, vs, l', rfl, nx, _⟩ := r
    rcases nx with nx | ⟨_, ⟨o, its, k, h1, h2, _⟩ | ⟨_, o, h1⟩⟩
    · exact .base (.lst nx.2)
    · exact .kList (by rw [← F.K]; exact h1) h2
    · exact .base (.frz h1)
  | dic m ks ds =>
    obtain ⟨a, kvs, l', rfl, nx, _⟩ := r
    rcases nx.2.1 with h1 | ⟨o, h1⟩
    · exact .base (.dK h1)
    · exact .fDict h1
  | ins m k fs ds =>
    obtain ⟨a, dx, fvs, l', rfl, nx, _⟩ := r
    obtain ⟨h1, h2, h3, _⟩ := F.ity k (hs k rfl)
    obtain ⟨h0, nx⟩ := nx.plain (.inr (hx k rfl))
    exact .base (.ins nx.2 (h1 h0) h2 (F.itk ⟨k, hs k rfl⟩).1 (F.itk ⟨k, hs k rfl⟩).2 h3)
/-- the class that is asked -/
def isiC (n : Env') : Isi → Value
  | .cls c => .ref (n.c.ca c)
  | .verr => .type "ValueError"
  | k => .type (isiN k)
def isiV (n : Env') : Isi → V
  | .cls c => .ref (n.c.ca c)
  | .verr => .ty "ValueError"
  | k => .ty (isiN k)
theorem isi_cls (k : Isi) : ClsV (isiV n k) (isiC n k) := by cases k <;> first | exact .ty _ | exact .own _
theorem kit_bb : ∀ T ∈ ["NoneType", "bool", "int", "str", "list", "tuple", "dict"], ∀ U ∈ ["int", "bool", "str", "list", "tuple", "dict"], kitB T U = some (decide (T = U) || (decide (T = "bool") && decide (U = "int"))) := by decide +kernel
theorem isi_val (F : FC n G X) {k : Isi} (hk : ∀ c, k = .cls c → n.okc c = true) {d : D} {v : V} {l : List Addr} {Q : VK} {K : Bool → Prop} {E : Nat → List D → Prop} (r : Rep n.c M H d v l) (h : PR (vIsi G.sub k d) K E) (hq : ∀ b, K b → Q (.bl b) H) : WCall X (.builtin "isinstance") [v, isiV n k] H Q := by
  unfold vIsi at h
  have tyIn : ∀ T, d.ty = .inl T → T ∈ ["NoneType", "bool", "int", "str", "list", "tuple", "dict"] := by
    intro T e; cases d <;> cases e <;> decide
  cases ht : d.ty with
  | inl T =>
    rw [ht] at h
    have t1 := rep_ty F r (fun q e => by rw [ht] at e; cases e) (fun q e => by rw [ht] at e; cases e)
    rw [ht] at t1
    have go : ∀ {k : Isi}, isiN k ∈ ["int", "bool", "str", "list", "tuple", "dict"] → isiC n k = .type (isiN k) → K (decide (T = isiN k) || (decide (T = "bool") && decide (isiN k = "int"))) → WCall X (.builtin "isinstance") [v, isiV n k] H Q := fun {k} hi hc h =>
      ⟨_, call_isi, v, _, _, _, _, rfl, isi_cls k, t1, by rw [hc]; exact kit_ty (kit_bb T (tyIn T ht) _ hi), hq _ h⟩
    cases k with
    | cls c => exact ⟨_, call_isi, v, _, _, _, false, rfl, isi_cls (.cls c), t1, F.itb T (tyIn T ht) c (hk c rfl), hq _ h⟩
    | verr => exact False.elim h
    | int => exact go (k := .int) (by decide) rfl h
    | bool => exact go (k := .bool) (by decide) rfl h
    | str => exact go (k := .str) (by decide) rfl h
    | list => exact go (k := .list) (by decide) rfl h
    | tuple => exact go (k := .tuple) (by decide) rfl h
    | dict => exact go (k := .dict) (by decide) rfl h
  | inr q =>
    rw [ht] at h
    have hsub : (!(G.sub q).isEmpty) = true → G.sub q ≠ [] := fun z e => by rw [e] at z; cases z
    have key : G.sub q ≠ [] ∧ ∃ b, PySem.W.kitOne X.K (.ref (n.c.ca q)) (isiC n k) = some b ∧ Q (.bl b) H := by
      cases k with
      | cls c => obtain ⟨hg, h⟩ := PR.guard h; exact ⟨hsub hg, _, (F.ity q (hsub hg)).2.2.2.2 c (hk c rfl), hq _ h⟩
      | verr =>
        obtain ⟨hg, h⟩ := PR.guard h
        exact ⟨fun e => by unfold xcB at hg; rw [e] at hg; simp at hg, _, (F.xk q hg).2, hq _ h⟩
      | int => obtain ⟨hg, h⟩ := PR.guard h; exact ⟨hsub hg, _, (F.ity q (hsub hg)).2.2.2.1 "int" (by decide), hq _ h⟩
      | bool => obtain ⟨hg, h⟩ := PR.guard h; exact ⟨hsub hg, _, (F.ity q (hsub hg)).2.2.2.1 "bool" (by decide), hq _ h⟩
      | str => obtain ⟨hg, h⟩ := PR.guard h; exact ⟨hsub hg, _, (F.ity q (hsub hg)).2.2.2.1 "str" (by decide), hq _ h⟩
      | list => obtain ⟨hg, h⟩ := PR.guard h; exact ⟨hsub hg, _, (F.ity q (hsub hg)).2.2.2.1 "list" (by decide), hq _ h⟩
      | tuple => obtain ⟨hg, h⟩ := PR.guard h; exact ⟨hsub hg, _, (F.ity q (hsub hg)).2.2.2.1 "tuple" (by decide), hq _ h⟩
      | dict => obtain ⟨hg, h⟩ := PR.guard h; exact ⟨hsub hg, _, (F.ity q (hsub hg)).2.2.2.1 "dict" (by decide), hq _ h⟩
    obtain ⟨hs, b, e, hb⟩ := key
    cases hx : n.c.xc q with
    | false =>
      have t1 := rep_ty F r (fun p e => by rw [ht] at e; cases e; exact hs) (fun p e => by rw [ht] at e; cases e; exact hx)
      rw [ht] at t1
      exact ⟨_, call_isi, v, _, _, _, _, rfl, isi_cls k, t1, e, hb⟩
    | true =>
      have T := gsx_of F (k := q) (by rw [← F.xcE]; exact hx)
      cases d with
      | ins m q' fs ds =>
        cases ht
        obtain ⟨a, dx, fvs, l', rfl, nx, _⟩ := r
        rcases nx with ⟨h0, _⟩ | ⟨_, rfl, ⟨e0, n1⟩ | ⟨n1, n2⟩⟩
        · rw [hx] at h0; cases h0
        · exact ⟨_, call_isiX, a, _, none, _, _, b, rfl, isi_cls k, T, n1.2, (fun d z => nomatch z), e, hb⟩
        · exact ⟨_, call_isiX, a, _, some dx, _, _, b, rfl, isi_cls k, T, n1.2, (fun d z => by cases z; exact ⟨_, n2.2⟩), e, hb⟩
      | _ => cases ht
/-- the second argument: a class's name -/
def isiName (n : Env') : Isi → Str
  | .cls c => n.cn c
  | .int => "int" | .bool => "bool" | .str => "str" | .list => "list" | .tuple => "tuple" | .dict => "dict" | .verr => "ValueError"
theorem isi_pe (F : FC n G X) {k : Isi} (hk : ∀ c, k = .cls c → n.okc c = true) {x : Str} {p : Pos} (hx : x = isiName n k) (hg : Gl X x) (hdb : (x == ("__debug__" : Str)) = false) : PE X (.Name x p) (tC (isiV n k)) := by
  subst hx
  cases k with
  | cls c => exact pe_glob hg (F.cnm c (hk c rfl)).1 rfl hdb
  | int => exact pe_bltn hg (F.free "int" (by simp)) (by decide +kernel : bootBuiltins "int" = some (.type "int")) rfl (show ("int" : Str) ≠ "__name__" by decide +kernel) hdb
  | bool => exact pe_bltn hg (F.free "bool" (by simp)) (by decide +kernel : bootBuiltins "bool" = some (.type "bool")) rfl (show ("bool" : Str) ≠ "__name__" by decide +kernel) hdb
  | str => exact pe_bltn hg (F.free "str" (by simp)) (by decide +kernel : bootBuiltins "str" = some (.type "str")) rfl (show ("str" : Str) ≠ "__name__" by decide +kernel) hdb
  | list => exact pe_bltn hg (F.free "list" (by simp)) (by decide +kernel : bootBuiltins "list" = some (.type "list")) rfl (show ("list" : Str) ≠ "__name__" by decide +kernel) hdb
  | tuple => exact pe_bltn hg (F.free "tuple" (by simp)) (by decide +kernel : bootBuiltins "tuple" = some (.type "tuple")) rfl (show ("tuple" : Str) ≠ "__name__" by decide +kernel) hdb
  | dict => exact pe_bltn hg (F.free "dict" (by simp)) (by decide +kernel : bootBuiltins "dict" = some (.type "dict")) rfl (show ("dict" : Str) ≠ "__name__" by decide +kernel) hdb
  | verr => exact pe_bltn hg (F.free "ValueError" (by simp)) (by decide +kernel : bootBuiltins "ValueError" = some (.type "ValueError")) rfl (show ("ValueError" : Str) ≠ "__name__" by decide +kernel) hdb
theorem se_isi (F : FC n G X) {k : Isi} (hk : ∀ c, k = .cls c → n.okc c = true) {a : Expr} {ta : Tm} {x : Str} {p p2 pos : Pos} (hx : x = isiName n k) (hgi : Gl X "isinstance") (hg : Gl X x) (hdb : (x == ("__debug__" : Str)) = false) (oa : okE a = true) (ha : SE n G X a ta) :
    SE n G X (.Call (.Name "isinstance" p) [a, .Name x p2] [] pos) (.isi ta k) := by
  intro W tk M s σ H Q R h
  unfold evalE at h
  have hpa : PA X [a, .Name x p2] (tCons (WE X a) (tCons (tC (isiV n k)) tNil)) := pa_cons we (pa_cons (isi_pe F hk hx hg hdb) pa_nil rfl) (okE_star oa _ _)
  refine ⟨_, pe_callB wcall hgi (F.free "isinstance" (by simp)) boot_isinstance hpa (by decide) (by decide) (okE_star oa _ _) (noStar (es := [.Name x p2]) fun e he => by rw [List.mem_singleton.mp he]; rfl), ?_⟩
  refine ha W tk M s σ H _ R (h.bind.imp (fun d ed hd v M1 H1 l s1 r1 f1 n1 => ?_) fun _ _ q => q)
  exact isi_val F hk r1 hd.bind fun b q => PE1.sc (d := .bl b) q s1 ⟨rfl, rfl⟩
end
end GS

namespace GS
open PySem PySem.Spec PyProof.Rows L2

/-! ## what is walked -/
def Stq (st : Bool) (M : MM) (H : Hp) (M' : MM) (H' : Hp) : Prop := if st = true then StS M H M' H' else St0 M H M' H'
theorem Stq.d {st : Bool} {M M' : MM} {H H' : Hp} (s : Stq st M H M' H') : Dom M' H' := by
  unfold Stq at s; cases st <;> exact s.d
/-- the walked dict may have been locked -/
def Lk (X : Cx) (st : Bool) (M : MM) (H H' : Hp) : Prop := H' = H ∨ ∃ d od kvs, H d = some (.dK kvs) ∧ M d ≠ none ∧ (st = true → M d ≠ some .own) ∧ H' = upd H d (.frz od (.dK kvs)) ∧ ∀ o' u', X.H_0 d ≠ some (.frz o' u')
structure Yl (n : Env') (st : Bool) (M : MM) (H : Hp) (J : It) (ds : List D) : Prop where
  turn : ∀ M' H', Stq st M H M' H' → (∀ i, ds.length ≤ i → J.stop i H') ∧ ∀ i d, ds[i]? = some d → J.go i H' ∧ ∀ x H'', J.yld i H' x H'' → ∃ M'', St0 M' H' M'' H'' ∧ Rep n.c M'' H'' d x []
def WI (X : Cx) (tg iter : Expr) : TI := fun σ H R => ∃ wi, PI X tg iter wi ∧ wi σ H R
theorem wi_ {X : Cx} {tg iter : Expr} : PI X tg iter (WI X tg iter) := ⟨fun pins s σ H R I ⟨t, h, q⟩ => h.run pins s σ H R I q⟩
def SI (n : Env') (G : GE) (X : Cx) (st : Bool) (tg iter : Expr) (it : Itr) : Prop := ∀ (W : WX), Takes X W → ∀ M s σ H R, RelS n.c M s σ H →
  PR (evalI G st it s) (fun ds => ∀ J M1 H1 H1', St0 M H M1 H1 → Lk X st M1 H1 H1' → Yl n st M1 H1' J ds → R J H1') (PX n M H fun cls d H' => W cls d σ H') → WI X tg iter σ H R

section
variable {n : Env'} {G : GE} {X : Cx} {W : WX} {M M0 M1 : MM} {H H0 H1 : Hp} {s : Sl} {σ : L2.St} {st : Bool} {tg : Expr}

theorem Rep.stp {M' : MM} {H' : Hp} {d : D} {v : V} (r : Rep n.c M H d v []) (hv : st = true → d.md ≠ .vw) (hd : Dom M H) (s : Stq st M H M' H') : Rep n.c M' H' d v [] := by
  unfold Stq at s
  cases st with
  | false => exact r.step hd s
  | true =>
    refine Rep.mono d r fun a ha h1 h2 => ?_
    have e := s.k a (hd a ha) (fun e => (h1 e).elim (fun z => nomatch z) (hv rfl))
    exact ⟨e.2, .inl e.1, fun z => nomatch z⟩
theorem Rep.lk {H' : Hp} {d : D} {v : V} (r : Rep n.c M H d v []) (k : Lk X st M H H') : Rep n.c M H' d v [] := by
  rcases k with e | ⟨q, od, kvs, h1, h2, h3, e, h4⟩
  · rw [e]; exact r
  · refine Rep.mono d r fun a ha _ _ => ⟨rfl, ?_, fun z => nomatch z⟩
    by_cases z : a = q
    · subst z
      exact .inr ⟨kvs, .inl h1, .inr ⟨od, by rw [e, upd_same]⟩⟩
    · exact .inl (by rw [e, upd_ne z])
theorem Lk.dom {H' : Hp} (d : Dom M H) (k : Lk X st M H H') : Dom M H' := by
  rcases k with e | ⟨q, od, kvs, h1, h2, h3, e, h4⟩
  · rw [e]; exact d
  · intro a ha
    rw [e]
    by_cases z : a = q
    · rw [z, upd_same]; simp
    · rw [upd_ne z]; exact d a ha
theorem RelS.lk {H' : Hp} (R : RelS n.c M s σ H) (k : Lk X st M H H') : RelS n.c M s σ H' := ⟨R.len, k.dom R.dom, fun i d e => let ⟨v, h1, h2⟩ := R.at_ i d e; ⟨v, h1, h2.lk k⟩⟩

/-- a walked thing that nobody holds is frozen -/
def D.wk (d : D) : D := if d.md = .own then d.own2 .fz else d
theorem wk_own (d : D) : d.wk.md ≠ .own := by
  unfold D.wk
  split
  · next h => rw [own2_md, if_pos h]; simp
  · next h => exact h
theorem wk_vw {d : D} (h : walkOk st d = true) : st = true → d.wk.md ≠ .vw := by
  intro e
  subst e
  unfold walkOk at h
  unfold D.wk
  split
  · next h => rw [own2_md, if_pos h]; simp
  · intro z; rw [z] at h; simp at h
theorem wk_rep {d : D} {v : V} {l L : List Addr} (r : Rep n.c M H d v l) (hs : ∀ a ∈ l, a ∈ L) (hL : ∀ a ∈ L, M a = some .own) : Rep n.c (frzM M L) H d.wk v [] := by
  unfold D.wk
  split
  · next h => exact Rep.freeze L d r hs hL (by unfold D.cl; rw [h])
  · next h =>
    have : l = [] := Rep.noOwn d r h
    subst this
    exact Rep.frzAny L hL d r h
theorem vLst_wk {d : D} {ds : List D} (h : vLst d = .ok ds) : ∃ m, d.wk = .lst m ds := by
  unfold vLst at h
  cases d with
  | lst m xs => cases m <;> cases h <;> exact ⟨_, rfl⟩
  | _ => cases h
theorem vSeq_wk {d : D} {ds : List D} (h : vSeq d = .ok ds) : (∃ m, d.wk = .lst m ds) ∨ ∃ m, d.wk = .tup m ds := by
  unfold vSeq at h
  cases d with
  | lst m xs => cases m <;> cases h <;> exact .inl ⟨_, rfl⟩
  | tup m xs => cases m <;> cases h <;> exact .inr ⟨_, rfl⟩
  | _ => cases h
theorem vDic_wk {d : D} {p : List Key × List D} (h : vDic d = .ok p) : ∃ m, d.wk = .dic m p.1 p.2 := by
  unfold vDic at h
  cases d with
  | dic m ks xs => cases m <;> cases h <;> exact ⟨_, rfl⟩
  | _ => cases h
theorem PR.val {α : Type} {r : Res α} {K : α → Prop} {E : Nat → List D → Prop} (h : PR r K E) (ne : ∀ c ds, r ≠ .ex c ds) : ∃ a, r = .ok a ∧ K a := by
  cases r with
  | ok a => exact ⟨a, rfl, h⟩
  | ex c ds => exact absurd rfl (ne c ds)
  | stuck => exact False.elim h
theorem vLst_ne (d : D) : ∀ c ds, vLst d ≠ .ex c ds := by
  intro c ds h
  unfold vLst at h; split at h <;> cases h
theorem vSeq_ne (d : D) : ∀ c ds, vSeq d ≠ .ex c ds := by
  intro c ds h
  unfold vSeq at h; split at h <;> cases h
theorem vDic_ne (d : D) : ∀ c ds, vDic d ≠ .ex c ds := by
  intro c ds h
  unfold vDic at h; split at h <;> cases h
theorem vInt_ne (d : D) : ∀ c ds, vInt d ≠ .ex c ds := by
  intro c ds h
  unfold vInt at h; split at h <;> cases h
theorem vInt_ok {d : D} {i : Int} (h : vInt d = .ok i) : d = .int i := by
  unfold vInt at h; split at h <;> cases h; rfl

/-! ### what is yielded -/
theorem yl_lst (F : FX n X) {m : Md} {ds : List D} {a : Addr} (r : Rep n.c M H (.lst m ds) (.ref a) []) (hv : st = true → m ≠ .vw) (hd : Dom M H) : Yl n st M H (Itl X.K a) ds := by
  refine ⟨fun M' H' s => ?_⟩
  obtain ⟨a', vs, l', e, nx, rr, el⟩ := r.stp (st := st) (d := .lst m ds) hv hd s
  cases e
  have sq := lst_sql F.K nx
  refine ⟨fun i hi => ⟨vs, sq, by rw [rr.len]; exact hi⟩, fun i d hi => ?_⟩
  obtain ⟨v, l2, e1, r2, hs, ck⟩ := Reps.get rr hi
  refine ⟨⟨vs, v, sq, e1⟩, fun x H'' ⟨e, y⟩ => ?_⟩
  subst e
  have e2 := y vs sq
  rw [e1] at e2
  cases e2
  have : l2 = [] := List.sublist_nil.mp (by
    have : l' = [] := by
      have z := el.symm
      cases m <;> first | (simp [consO] at z; done) | exact z
    rw [this] at hs; exact hs)
  subst this
  exact ⟨M', St0.refl s.d, r2⟩
theorem nil_of {m : Md} {a : Addr} {l' l2 : List Addr} (e : [] = consO m a l') (hs : l2.Sublist l') : l2 = [] := by
  have : l' = [] := by
    have z := e.symm
    cases m <;> first | (simp [consO] at z; done) | exact z
  rw [this] at hs; exact List.sublist_nil.mp hs
theorem yl_tup (F : FX n X) {m : Md} {ds : List D} {a : Addr} (r : Rep n.c M H (.tup m ds) (.ref a) []) (hv : st = true → m ≠ .vw) (hd : Dom M H) : Yl n st M H (Itt X.K a) ds := by
  refine ⟨fun M' H' s => ?_⟩
  obtain ⟨a', vs, l', e, nx, rr, el⟩ := r.stp (st := st) (d := .tup m ds) hv hd s
  cases e
  have sq := tup_sqt F.K nx
  refine ⟨fun i hi => ⟨vs, sq, by rw [rr.len]; exact hi⟩, fun i d hi => ?_⟩
  obtain ⟨v, l2, e1, r2, hs, ck⟩ := Reps.get rr hi
  refine ⟨⟨vs, v, sq, e1⟩, fun x H'' ⟨e, y⟩ => ?_⟩
  subst e
  have e2 := y vs sq
  rw [e1] at e2
  cases e2
  have := nil_of el hs
  subst this
  exact ⟨M', St0.refl s.d, r2⟩
theorem yl_rev (F : FX n X) {m : Md} {ds : List D} {a : Addr} (r : Rep n.c M H (.lst m ds) (.ref a) []) (hv : st = true → m ≠ .vw) (hd : Dom M H) : Yl n st M H (Itv X.K a ds.length) ds.reverse := by
  refine ⟨fun M' H' s => ?_⟩
  obtain ⟨a', vs, l', e, nx, rr, el⟩ := r.stp (st := st) (d := .lst m ds) hv hd s
  cases e
  have sq := lst_sql F.K nx
  refine ⟨fun i hi => show ds.length ≤ i by simpa using hi, fun i d hi => ?_⟩
  have hlt : i < ds.length := by
    have := (List.getElem?_eq_some_iff.mp hi).1
    simpa using this
  rw [List.getElem?_reverse hlt] at hi
  obtain ⟨v, l2, e1, r2, hs, ck⟩ := Reps.get rr hi
  refine ⟨⟨hlt, vs, v, sq, e1⟩, fun x H'' ⟨e, y⟩ => ?_⟩
  subst e
  have e2 := y vs sq
  rw [e1] at e2
  cases e2
  have := nil_of el hs
  subst this
  exact ⟨M', St0.refl s.d, r2⟩
theorem yl_rng {lo : Int} {k : Nat} : Yl n st M H (L2.Itr lo k) (rangeD lo k) := by
  refine ⟨fun M' H' s => ⟨fun i hi => show k ≤ i by simpa [rangeD] using hi, fun i d hi => ?_⟩⟩
  have hlt : i < k := by
    have := (List.getElem?_eq_some_iff.mp hi).1
    simpa [rangeD] using this
  refine ⟨hlt, fun x H'' ⟨e, y⟩ => ?_⟩
  subst e y
  refine ⟨M', St0.refl s.d, ?_⟩
  have : d = .int (lo + (i : Nat)) := by
    unfold rangeD at hi
    rw [List.getElem?_map, List.getElem?_range hlt] at hi
    simpa using hi.symm
  rw [this]
  exact ⟨rfl, rfl⟩
theorem yl_sgn {z : Str} : Yl n st M H (Its z) (z.cps.toList.map fun c => D.str ⟨#[c]⟩) := by
  refine ⟨fun M' H' s => ⟨fun i hi => show z.cps.size ≤ i by simpa using hi, fun i d hi => ?_⟩⟩
  have hlt : i < z.cps.size := by
    have := (List.getElem?_eq_some_iff.mp hi).1
    simpa using this
  refine ⟨hlt, fun x H'' ⟨e, c, hc, y⟩ => ?_⟩
  subst e y
  refine ⟨M', St0.refl s.d, ?_⟩
  rw [List.getElem?_map, Array.getElem?_toList, hc] at hi
  cases hi
  exact ⟨rfl, rfl⟩
/-- a new pair -/
theorem new_pair {d d' : D} {v u : V} {T : Addr} (r : Rep n.c M H d v []) (r' : Rep n.c M H d' u []) (hd : Dom M H) (hT : H T = none) : ∃ M'', St0 M H M'' (upd H T (.tup [v, u])) ∧ Rep n.c M'' (upd H T (.tup [v, u])) (.tup .vw [d, d']) (.ref T) [] := by
  have s1 : St0 M H (layM M T .own) (upd H T (.tup [v, u])) := St0.lay hd hT
  have ck : ∀ {d : D} {v : V}, Rep n.c M H d v [] → chOk .vw d.md = true := fun {d v} r => by
    have hne : d.md ≠ .own := fun e => by
      cases d with
      | tup m ds => obtain ⟨_, _, _, _, _, _, el⟩ := r; cases e; cases el
      | lst m ds => obtain ⟨_, _, _, _, _, _, el⟩ := r; cases e; cases el
      | dic m ks ds => obtain ⟨_, _, _, _, _, _, _, el⟩ := r; cases e; cases el
      | ins m k fs ds => obtain ⟨_, _, _, _, _, _, _, _, el⟩ := r; cases e; cases el
      | _ => cases e
    cases hm : d.md <;> first | rfl | exact absurd hm hne
  exact ⟨_, s1, T, [v, u], [], rfl, .inl ⟨.inl layM_same, upd_same⟩, ⟨v, [u], [], [], rfl, ck r, r.step hd s1, ⟨u, [], [], [], rfl, ck r', r'.step hd s1, ⟨rfl, rfl⟩, rfl⟩, rfl⟩, rfl⟩
theorem enums_at : ∀ (ds : List D) (k i : Nat) (d : D), (enums k ds)[i]? = some d → ∃ x, ds[i]? = some x ∧ d = .tup .vw [.int ((k + i : Nat) : Int), x]
  | [], k, i, d, h => by simp [enums] at h
  | x :: ds, k, 0, d, h => by simp [enums] at h; exact ⟨x, rfl, by simp [← h]⟩
  | x :: ds, k, i + 1, d, h => by
    simp [enums] at h
    obtain ⟨y, h1, h2⟩ := enums_at ds (k + 1) i d h
    exact ⟨y, by simpa using h1, by rw [h2]; congr 4; omega⟩
theorem enums_len : ∀ (ds : List D) (k : Nat), (enums k ds).length = ds.length
  | [], k => rfl
  | x :: ds, k => by simp [enums, enums_len ds]
theorem yl_enm (F : FX n X) {m : Md} {ds : List D} {a : Addr} (r : Rep n.c M H (.lst m ds) (.ref a) []) (hv : st = true → m ≠ .vw) (hd : Dom M H) : Yl n st M H (Ite X.K a) (enums 0 ds) := by
  refine ⟨fun M' H' s => ?_⟩
  obtain ⟨a', vs, l', e, nx, rr, el⟩ := r.stp (st := st) (d := .lst m ds) hv hd s
  cases e
  have sq := lst_sql F.K nx
  refine ⟨fun i hi => ⟨vs, sq, by rw [rr.len, ← enums_len ds 0]; exact hi⟩, fun i d hi => ?_⟩
  obtain ⟨y, hy, ed⟩ := enums_at ds 0 i d hi
  subst ed
  obtain ⟨v, l2, e1, r2, hs, ck⟩ := Reps.get rr hy
  refine ⟨⟨vs, v, sq, e1⟩, fun x H'' ⟨T, w, ex, hT, eH, hw⟩ => ?_⟩
  subst ex eH
  have e2 := hw vs sq
  rw [e1] at e2
  cases e2
  have := nil_of el hs
  subst this
  rw [Nat.zero_add]
  exact new_pair (d := .int (i : Nat)) ⟨rfl, rfl⟩ r2 s.d hT
theorem pairs_at : ∀ (xs ys : List D) (i : Nat) (d : D), (pairs xs ys)[i]? = some d → ∃ x y, xs[i]? = some x ∧ ys[i]? = some y ∧ d = .tup .vw [x, y]
  | [], ys, i, d, h => by simp [pairs] at h
  | x :: xs, [], i, d, h => by simp [pairs] at h
  | x :: xs, y :: ys, 0, d, h => by simp [pairs] at h; exact ⟨x, y, rfl, rfl, h.symm⟩
  | x :: xs, y :: ys, i + 1, d, h => by
    simp [pairs] at h
    obtain ⟨p, q, h1, h2, h3⟩ := pairs_at xs ys i d h
    exact ⟨p, q, by simpa using h1, by simpa using h2, h3⟩
theorem pairs_len : ∀ (xs ys : List D), (pairs xs ys).length = min xs.length ys.length
  | [], ys => by simp [pairs]
  | x :: xs, [] => by simp [pairs]
  | x :: xs, y :: ys => by simp [pairs, pairs_len xs ys]
theorem yl_zip (F : FX n X) {m m' : Md} {xs ys : List D} {a b : Addr} (r : Rep n.c M H (.lst m xs) (.ref a) []) (r' : Rep n.c M H (.lst m' ys) (.ref b) []) (hv : st = true → m ≠ .vw) (hv' : st = true → m' ≠ .vw) (hd : Dom M H) : Yl n st M H (Itz X.K a b) (pairs xs ys) := by
  refine ⟨fun M' H' s => ?_⟩
  obtain ⟨a', vs, l', e, nx, rr, el⟩ := r.stp (st := st) (d := .lst m xs) hv hd s
  cases e
  obtain ⟨b', us, l'', e, nx', rr', el'⟩ := r'.stp (st := st) (d := .lst m' ys) hv' hd s
  cases e
  have sq := lst_sql F.K nx
  have sq' := lst_sql F.K nx'
  refine ⟨fun i hi => ⟨vs, us, sq, sq', ?_⟩, fun i d hi => ?_⟩
  · rw [rr.len, rr'.len]
    rw [pairs_len] at hi
    omega
  obtain ⟨x, y, hx, hy, ed⟩ := pairs_at xs ys i d hi
  subst ed
  obtain ⟨v, l2, e1, r2, hs, ck⟩ := Reps.get rr hx
  obtain ⟨u, l3, e2, r3, hs', ck'⟩ := Reps.get rr' hy
  refine ⟨⟨vs, us, v, u, sq, sq', e1, e2⟩, fun x H'' ⟨T, w, z, ex, hT, eH, hw, hz⟩ => ?_⟩
  subst ex eH
  have e3 := hw vs sq
  have e4 := hz us sq'
  rw [e1] at e3
  rw [e2] at e4
  cases e3
  cases e4
  have := nil_of el hs
  have := nil_of el' hs'
  subst l2 l3
  exact new_pair r2 r3 s.d hT
end
end GS

namespace GS
open PySem PySem.Spec PyProof.Rows L2

section
variable {n : Env'} {G : GE} {X : Cx} {W : WX} {M M0 M1 : MM} {H H0 H1 : Hp} {s : Sl} {σ : L2.St} {st : Bool} {tg : Expr}

/-! ### the walks of dicts, the dict locked -/
/-- behind an expression a dict is locked -/
def tLockA (X : Cx) (t : TE) : TE := fun σ H Q => t σ H fun x H1 => Q x H1 ∨ ∃ d kvs, x = .ref d ∧ H1 d = some (.dK kvs) ∧ ∀ od, (∀ o' u', X.H_0 d ≠ some (.frz o' u')) → Q x (upd H1 d (.frz od (.dK kvs)))
theorem pe_lockA {e : Expr} {t : TE} (h : PE X e t) : PE X e (tLockA X t) := by
  refine ⟨fun pins s σ H Q I hw => ?_⟩
  refine thn (h.run pins s σ H _ I hw) fun v s1 ⟨x, H1, I1, r, q⟩ => ?_
  rcases q with q | ⟨d, kvs, ex, hd, q⟩
  · exact ⟨x, H1, I1, r, q⟩
  · obtain ⟨od, I2⟩ := I1.lock hd trivial
    exact ⟨x, _, I2, r, q od (I1.nofrz hd trivial)⟩
theorem Reps.at_ {p : Md} {ds : List D} {vs : List V} {a : Addr} {l' : List Addr} {m : Md} {i : Nat} {d : D} (rr : Reps n.c M H p ds vs l') (el : [] = consO m a l') (h : ds[i]? = some d) : ∃ v, vs[i]? = some v ∧ Rep n.c M H d v [] := by
  obtain ⟨v, l2, e1, r2, hs, ck⟩ := Reps.get rr h
  have := nil_of el hs
  subst this
  exact ⟨v, e1, r2⟩
/-- a locked dict stays -/
theorem frz_stq {M' : MM} {H' : Hp} {d : Addr} {u : HO} (h : H d = some u) (hm : st = true → M d ≠ some .own) (s : Stq st M H M' H') : H' d = some u := by
  unfold Stq at s
  cases st with
  | false => rw [(s.k d (by rw [h]; simp)).1]; exact h
  | true => rw [(s.k d (by rw [h]; simp) (hm rfl)).1]; exact h
theorem keyD_rep (k : Key) : Rep n.c M H (keyD k) (kV k) [] := by
  cases k <;> exact ⟨rfl, rfl⟩
theorem keys_at {kvs : List (Key × V)} {i : Nat} {d : D} {ks : List Key} (e : kvs.map (·.1) = ks) (h : (ks.map keyD)[i]? = some d) : ∃ k v, kvs[i]? = some (k, v) ∧ d = keyD k := by
  subst e
  rw [List.getElem?_map, List.getElem?_map] at h
  cases hk : kvs[i]? with
  | none => rw [hk] at h; cases h
  | some p => rw [hk] at h; cases h; exact ⟨p.1, p.2, rfl, rfl⟩
theorem yl_keys {ks : List Key} {a : Addr} {od : Obj} {kvs : List (Key × V)} (ek : kvs.map (·.1) = ks) (hl : H a = some (.frz od (.dK kvs))) (hm : st = true → M a ≠ some .own) : Yl n st M H (Itk a od kvs) (ks.map keyD) := by
  refine ⟨fun M' H' s => ?_⟩
  have e := frz_stq hl hm s
  have hlen : ks.length = kvs.length := by rw [← ek]; simp
  refine ⟨fun i hi => ⟨e, by rw [← hlen]; simpa using hi⟩, fun i d hi => ?_⟩
  obtain ⟨k, v, e1, e2⟩ := keys_at ek hi
  refine ⟨⟨e, (List.getElem?_eq_some_iff.mp e1).1⟩, fun x H'' ⟨e3, k', v', e4, e5⟩ => ?_⟩
  rw [e1] at e4
  cases e4
  subst e3 e5 e2
  exact ⟨M', St0.refl s.d, keyD_rep k⟩
theorem yl_vals {m : Md} {ks : List Key} {ds : List D} {a : Addr} {od : Obj} {kvs : List (Key × V)} (r : Rep n.c M H (.dic m ks ds) (.ref a) []) (hl : H a = some (.frz od (.dK kvs))) (hv : st = true → m ≠ .vw) (hm : st = true → M a ≠ some .own) (hd : Dom M H) : Yl n st M H (Itd a od kvs) ds := by
  refine ⟨fun M' H' s => ?_⟩
  have e := frz_stq hl hm s
  obtain ⟨a', kvs', l', ea, nx, ek, rr, el⟩ := r.stp (st := st) (d := .dic m ks ds) hv hd s
  cases ea
  obtain rfl : kvs = kvs' := rd_uniq (.inr ⟨od, e⟩) nx.2.1
  have hlen : kvs.length = ds.length := by have := rr.len; simpa using this
  refine ⟨fun i hi => ⟨e, by rw [hlen]; exact hi⟩, fun i d hi => ?_⟩
  obtain ⟨v, e1, r2⟩ := rr.at_ el hi
  refine ⟨⟨e, by rw [hlen]; exact (List.getElem?_eq_some_iff.mp hi).1⟩, fun x H'' ⟨e3, k', e4⟩ => ?_⟩
  rw [List.getElem?_map, e4] at e1
  cases e1
  subst e3
  exact ⟨M', St0.refl s.d, r2⟩
theorem yl_items {m : Md} {ks : List Key} {ds : List D} {a : Addr} {od : Obj} {kvs : List (Key × V)} (r : Rep n.c M H (.dic m ks ds) (.ref a) []) (hl : H a = some (.frz od (.dK kvs))) (hv : st = true → m ≠ .vw) (hm : st = true → M a ≠ some .own) (hd : Dom M H) : Yl n st M H (Iti a od kvs) (pairs (ks.map keyD) ds) := by
  refine ⟨fun M' H' s => ?_⟩
  have e := frz_stq hl hm s
  obtain ⟨a', kvs', l', ea, nx, ek, rr, el⟩ := r.stp (st := st) (d := .dic m ks ds) hv hd s
  cases ea
  obtain rfl : kvs = kvs' := rd_uniq (.inr ⟨od, e⟩) nx.2.1
  have hlen : kvs.length = ds.length := by have := rr.len; simpa using this
  have hlen2 : ks.length = kvs.length := by rw [← ek]; simp
  refine ⟨fun i hi => ⟨e, ?_⟩, fun i d hi => ?_⟩
  · rw [pairs_len, List.length_map] at hi
    omega
  obtain ⟨x, y, hx, hy, ed⟩ := pairs_at _ _ i d hi
  obtain ⟨k, v, e1, e2⟩ := keys_at ek hx
  obtain ⟨u, e5, r2⟩ := rr.at_ el hy
  rw [List.getElem?_map, e1] at e5
  cases e5
  refine ⟨⟨e, (List.getElem?_eq_some_iff.mp e1).1⟩, fun x H'' ⟨T, k', v', e4, e6, hT, eH⟩ => ?_⟩
  rw [e1] at e4
  cases e4
  subst e6 eH e2 ed
  exact new_pair (keyD_rep k) r2 s.d hT

/-! ### the rules -/
/-- what the walked value is, at the place where the walk begins -/
theorem walk_it {x : D} {v : V} {l : List Addr} (st1 : St0 M0 H0 M H) (r : Rep n.c M H x v l) (f : ∀ a ∈ l, H0 a = none) : St0 M0 H0 (frzM M l) H ∧ Rep n.c (frzM M l) H x.wk v [] := by
  have ow := Rep.owns x r
  exact ⟨st0_frz st1 f (fun a z => (ow a z).2), wk_rep r (fun _ z => z) fun a z => (ow a z).1⟩
theorem si_rng1 (F : FC n G X) {a : Expr} {ta : Tm} {p pos : Pos} (hg : Gl X "range") (ha : SE n G X a ta) (ho : okE a = true) : SI n G X st tg (.Call (.Name "range" p) [a] [] pos) (.rng1 ta) := by
  intro W tk M s σ H R Rl h
  unfold evalI at h
  refine ⟨_, pi_range1 hg (F.free _ (by simp)) (pa_cons we pa_nil (okE_star ho _ _)) (okE_star ho _ _), ?_⟩
  refine ha W tk M s σ H _ Rl (h.bind.imp (fun x ex hx v M1 H1 l1 s1 r1 f1 n1 => ?_) fun _ _ q => q)
  obtain ⟨i, hi, hx'⟩ := PR.val hx.bind (vInt_ne x)
  clear hx
  obtain rfl := vInt_ok hi
  have hx := hx'
  obtain ⟨h1, hx⟩ := PR.guard hx
  unfold small62 at h1
  rw [Bool.and_eq_true, decide_eq_true_eq, decide_eq_true_eq] at h1
  obtain ⟨rfl, _⟩ := r1
  exact ⟨i, rfl, h1.1, h1.2, hx _ M1 H1 H1 s1 (.inl rfl) yl_rng⟩
theorem si_rng2 (F : FC n G X) {a b : Expr} {ta tb : Tm} {p pos : Pos} (hg : Gl X "range") (ha : SE n G X a ta) (hb : SE n G X b tb) (ho : okE a = true) (hob : okE b = true) : SI n G X st tg (.Call (.Name "range" p) [a, b] [] pos) (.rng2 ta tb) := by
  intro W tk M s σ H R Rl h
  unfold evalI at h
  refine ⟨_, pi_range2 hg (F.free _ (by simp)) (pa_cons we (pa_cons we pa_nil (okE_star hob _ _)) (okE_star ho _ _)) (by rw [okE_star ho, okE_star hob]; rfl) (okE_star hob _ _), ?_⟩
  refine ha W tk M s σ H _ Rl (h.bind.imp (fun x ex hx v M1 H1 l1 s1 r1 f1 n1 => ?_) fun _ _ q => q)
  obtain ⟨i, hi, hx'⟩ := PR.val hx.bind (vInt_ne x)
  clear hx
  obtain rfl := vInt_ok hi
  have hx := hx'
  refine hb W tk M1 s σ H1 _ (Rl.step s1) (hx.bind.imp (fun y ey hy u M2 H2 l2 s2 r2 f2 n2 => ?_) fun _ _ q => q.step s1)
  obtain ⟨j, hj, hy'⟩ := PR.val hy.bind (vInt_ne y)
  clear hy
  obtain rfl := vInt_ok hj
  have hy := hy'
  obtain ⟨h1, hy⟩ := PR.guard hy
  unfold small62 at h1
  simp only [Bool.and_eq_true, decide_eq_true_eq] at h1
  obtain ⟨rfl, _⟩ := r1
  obtain ⟨rfl, _⟩ := r2
  exact ⟨i, j, rfl, ⟨h1.1.1, h1.1.2, h1.2.1, h1.2.2⟩, hy _ M2 H2 H2 (s1.trans s2) (.inl rfl) yl_rng⟩
theorem si_seq (F : FC n G X) {a : Expr} {ta : Tm} (ha : SE n G X a ta) : SI n G X st tg a (.seq ta) := by
  intro W tk M s σ H R Rl h
  unfold evalI at h
  by_cases hd : ∃ m ds, evalE G ta s = .ok (.tup m ds)
  · obtain ⟨m, ds, hd⟩ := hd
    refine ⟨_, pi_tup we, ?_⟩
    refine ha W tk M s σ H _ Rl (h.bind.imp (fun x ex hx v M1 H1 l1 s1 r1 f1 n1 => ?_) fun _ _ q => q)
    rw [hd] at ex
    cases ex
    obtain ⟨hw, hx⟩ := PR.guard hx
    obtain ⟨es, he, hx⟩ := PR.val hx (vSeq_ne _)
    obtain ⟨s2, r2⟩ := walk_it s1 r1 f1
    have hv := wk_vw (st := st) hw
    rcases vSeq_wk he with ⟨m', e⟩ | ⟨m', e⟩
    · cases m <;> cases e
    rw [e] at r2 hv
    have r3 := r2
    obtain ⟨a', vs, l', rfl, nx, rr, el⟩ := r2
    exact ⟨a', rfl, ⟨vs, tup_sqt F.K nx⟩, hx _ _ H1 H1 s2 (.inl rfl) (yl_tup F.toFX r3 hv s2.d)⟩
  · refine ⟨_, pi_list we, ?_⟩
    refine ha W tk M s σ H _ Rl (h.bind.imp (fun x ex hx v M1 H1 l1 s1 r1 f1 n1 => ?_) fun _ _ q => q)
    obtain ⟨hw, hx⟩ := PR.guard hx
    obtain ⟨es, he, hx⟩ := PR.val hx (vSeq_ne _)
    obtain ⟨s2, r2⟩ := walk_it s1 r1 f1
    have hv := wk_vw (st := st) hw
    rcases vSeq_wk he with ⟨m', e⟩ | ⟨m', e⟩
    · rw [e] at r2 hv
      have r3 := r2
      obtain ⟨a', vs, l', rfl, nx, rr, el⟩ := r2
      exact ⟨a', rfl, ⟨vs, lst_sql F.K nx⟩, hx _ _ H1 H1 s2 (.inl rfl) (yl_lst F.toFX r3 hv s2.d)⟩
    · exfalso
      cases x with
      | tup m ds => exact hd ⟨m, ds, ex⟩
      | lst m ds => cases m <;> cases e
      | _ => unfold vSeq at he; cases he
theorem si_enm (F : FC n G X) {a : Expr} {ta : Tm} {p pos tpos : Pos} {elts : List Expr} {kk : Nat} (hg : Gl X "enumerate") (ha : SE n G X a ta) (ho : okE a = true) : SI n G X st (.Tuple elts kk tpos) (.Call (.Name "enumerate" p) [a] [] pos) (.enm ta) := by
  intro W tk M s σ H R Rl h
  unfold evalI at h
  refine ⟨_, pi_enum hg (F.free _ (by simp)) (pa_cons we pa_nil (okE_star ho _ _)) (okE_star ho _ _), ?_⟩
  refine ha W tk M s σ H _ Rl (h.bind.imp (fun x ex hx v M1 H1 l1 s1 r1 f1 n1 => ?_) fun _ _ q => q)
  obtain ⟨hw, hx⟩ := PR.guard hx
  obtain ⟨es, he, hx⟩ := PR.val hx.bind (vLst_ne _)
  obtain ⟨s2, r2⟩ := walk_it s1 r1 f1
  have hv := wk_vw (st := st) hw
  obtain ⟨m', e⟩ := vLst_wk he
  rw [e] at r2 hv
  have r3 := r2
  obtain ⟨a', vs, l', rfl, nx, rr, el⟩ := r2
  exact ⟨a', vs, rfl, lst_sql F.K nx, hx _ _ H1 H1 s2 (.inl rfl) (yl_enm F.toFX r3 hv s2.d)⟩
theorem si_rev (F : FC n G X) {a : Expr} {ta : Tm} {p pos : Pos} (hg : Gl X "reversed") (ha : SE n G X a ta) (ho : okE a = true) : SI n G X st tg (.Call (.Name "reversed" p) [a] [] pos) (.rev ta) := by
  intro W tk M s σ H R Rl h
  unfold evalI at h
  refine ⟨_, pi_reversed hg (F.free _ (by simp)) (pa_cons we pa_nil (okE_star ho _ _)) (okE_star ho _ _), ?_⟩
  refine ha W tk M s σ H _ Rl (h.bind.imp (fun x ex hx v M1 H1 l1 s1 r1 f1 n1 => ?_) fun _ _ q => q)
  obtain ⟨hw, hx⟩ := PR.guard hx
  obtain ⟨es, he, hx⟩ := PR.val hx.bind (vLst_ne _)
  obtain ⟨s2, r2⟩ := walk_it s1 r1 f1
  have hv := wk_vw (st := st) hw
  obtain ⟨m', e⟩ := vLst_wk he
  rw [e] at r2 hv
  have r3 := r2
  obtain ⟨a', vs, l', rfl, nx, rr, el⟩ := r2
  refine ⟨a', vs, rfl, lst_sql F.K nx, ?_⟩
  rw [rr.len]
  exact hx _ _ H1 H1 s2 (.inl rfl) (yl_rev F.toFX r3 hv s2.d)
theorem si_sgn {a : Expr} {ta : Tm} (ha : SE n G X a ta) : SI n G X st tg a (.sgn ta) := by
  intro W tk M s σ H R Rl h
  unfold evalI at h
  refine ⟨_, pi_str we, ?_⟩
  refine ha W tk M s σ H _ Rl (h.bind.imp (fun x ex hx v M1 H1 l1 s1 r1 f1 n1 => ?_) fun _ _ q => q)
  cases x with
  | str z =>
    obtain ⟨rfl, _⟩ := r1
    exact ⟨z, rfl, hx _ M1 H1 H1 s1 (.inl rfl) yl_sgn⟩
  | _ => exact False.elim hx
theorem frz_other {x : D} {v : V} {l l' : List Addr} (r : Rep n.c M H x v l) (hL : ∀ a ∈ l', M a = some .own) (hd : ∀ a ∈ l, a ∉ l') : Rep n.c (frzM M l') H x v l := by
  by_cases h : x.md = .own
  · refine Rep.mono x r fun a ha h1 _ => ⟨?_, .inl rfl, fun _ => rfl⟩
    by_cases z : a ∈ l'
    · rcases h1 (hL a z) with q | q
      · exact absurd z (hd a q)
      · rw [h] at q; cases q
    · exact frzM_out z
  · have : l = [] := Rep.noOwn x r h
    subst this
    exact Rep.frzAny l' hL x r h
theorem si_zip (F : FC n G X) {a b : Expr} {ta tb : Tm} {p pos tpos : Pos} {elts : List Expr} {kk : Nat} (hg : Gl X "zip") (ha : SE n G X a ta) (hb : SE n G X b tb) (ho : okE a = true) (hob : okE b = true) : SI n G X st (.Tuple elts kk tpos) (.Call (.Name "zip" p) [a, b] [] pos) (.zip ta tb) := by
  intro W tk M s σ H R Rl h
  unfold evalI at h
  refine ⟨_, pi_zip hg (F.free _ (by simp)) (pa_cons we (pa_cons we pa_nil (okE_star hob _ _)) (okE_star ho _ _)) (okE_star ho _ _) (by rw [okE_star hob]; rfl), ?_⟩
  refine ha W tk M s σ H _ Rl (h.bind.imp (fun x ex hx v M1 H1 l1 s1 r1 f1 n1 => ?_) fun _ _ q => q)
  refine hb W tk M1 s σ H1 _ (Rl.step s1) (hx.bind.imp (fun y ey hy u M2 H2 l2 s2 r2 f2 n2 => ?_) fun _ _ q => q.step s1)
  obtain ⟨hw, hy⟩ := PR.guard hy
  rw [Bool.and_eq_true] at hw
  obtain ⟨xs, hxs, hy⟩ := PR.val hy.bind (vLst_ne _)
  obtain ⟨ys, hys, hy⟩ := PR.val hy.bind (vLst_ne _)
  have ow1 := Rep.owns x r1
  have ow2 := Rep.owns y r2
  have r1b := r1.step s1.d s2
  have ow1b := Rep.owns x r1b
  have own : ∀ z ∈ l1 ++ l2, M2 z = some .own ∧ H2 z ≠ none := fun z hz => (List.mem_append.mp hz).elim (ow1b z) (ow2 z)
  have fr : ∀ q ∈ l1 ++ l2, H q = none := fun q hq => (List.mem_append.mp hq).elim (f1 q) fun hq => s1.fresh (f2 q hq)
  have s3 : St0 M H (frzM M2 (l1 ++ l2)) H2 := st0_frz (s1.trans s2) fr fun z hz => (own z hz).2
  have rx := wk_rep (L := l1 ++ l2) r1b (fun z hz => by simp [hz]) fun z hz => (own z hz).1
  have ry := wk_rep (L := l1 ++ l2) r2 (fun z hz => by simp [hz]) fun z hz => (own z hz).1
  have hv := wk_vw (st := st) hw.1
  have hv' := wk_vw (st := st) hw.2
  obtain ⟨m, e⟩ := vLst_wk hxs
  obtain ⟨m', e'⟩ := vLst_wk hys
  rw [e] at rx hv
  rw [e'] at ry hv'
  have rx' := rx
  have ry' := ry
  obtain ⟨a1, vs, la, rfl, nx, rr, el⟩ := rx
  obtain ⟨a2, us, lb, rfl, nx', rr', el'⟩ := ry
  exact ⟨a1, a2, vs, us, rfl, lst_sql F.K nx, lst_sql F.K nx', hy _ _ H2 H2 s3 (.inl rfl) (yl_zip F.toFX rx' ry' hv hv' s3.d)⟩
/-- a dict about to be walked: locked now, or it was -/
theorem dict_it {m : Md} {ks : List Key} {ds : List D} {v : V} {J : Addr → Obj → List (Key × V) → It} {es : List D} {R : It → Hp → Prop} (s2 : St0 M0 H0 M H) (r : Rep n.c M H (.dic m ks ds) v []) (ho : m ≠ .own) (hv : st = true → m ≠ .vw)
    (hy : ∀ H' a od kvs, Dom M H' → Rep n.c M H' (.dic m ks ds) (.ref a) [] → H' a = some (.frz od (.dK kvs)) → kvs.map (·.1) = ks → (st = true → M a ≠ some .own) → Yl n st M H' (J a od kvs) es)
    (hx : ∀ J M1 H1 H1', St0 M0 H0 M1 H1 → Lk X st M1 H1 H1' → Yl n st M1 H1' J es → R J H1') :
    (∃ d od kvs, v = .ref d ∧ H d = some (.frz od (.dK kvs)) ∧ R (J d od kvs) H) ∨ ∃ d kvs, v = .ref d ∧ H d = some (.dK kvs) ∧ ∀ od, (∀ o' u', X.H_0 d ≠ some (.frz o' u')) → R (J d od kvs) (upd H d (.frz od (.dK kvs))) := by
  have r' := r
  obtain ⟨a, kvs, l', rfl, nx, ek, rr, el⟩ := r
  have hm : st = true → M a ≠ some .own := fun e z => by
    rcases nx.1.own z with q | q
    · exact ho q
    · exact hv e q
  have hne : M a ≠ none := nx.1.ne_none
  rcases nx.2.1 with h | ⟨od, h⟩
  · refine .inr ⟨a, kvs, rfl, h, fun od hn => ?_⟩
    have lk : Lk X st M H (upd H a (.frz od (.dK kvs))) := .inr ⟨a, od, kvs, h, hne, hm, rfl, hn⟩
    exact hx _ M H _ s2 lk (hy _ a od kvs (lk.dom s2.d) (r'.lk lk) upd_same ek hm)
  · exact .inl ⟨a, od, kvs, rfl, h, hx _ M H H s2 (.inl rfl) (hy _ a od kvs s2.d r' h ek hm)⟩
theorem si_keys (F : FC n G X) {a : Expr} {ta : Tm} (ha : SE n G X a ta) : SI n G X st tg a (.keys ta) := by
  intro W tk M s σ H R Rl h
  unfold evalI at h
  refine ⟨_, pi_keys (pe_lockA we), ?_⟩
  refine ha W tk M s σ H _ Rl (h.bind.imp (fun x ex hx v M1 H1 l1 s1 r1 f1 n1 => ?_) fun _ _ q => q)
  obtain ⟨hw, hx⟩ := PR.guard hx
  obtain ⟨es, he, hx⟩ := PR.val hx.bind (vDic_ne _)
  obtain ⟨s2, r2⟩ := walk_it s1 r1 f1
  have hv := wk_vw (st := st) hw
  have ho := wk_own x
  obtain ⟨m', e⟩ := vDic_wk he
  rw [e] at r2 hv ho
  rcases dict_it (X := X) (R := R) (J := Itk) (es := es.1.map keyD) s2 r2 ho hv (fun H' a od kvs hd rr hl ek hm => yl_keys ek hl hm) hx with ⟨d, od, kvs, ev, hl, q⟩ | ⟨d, kvs, ev, hl, q⟩
  · exact .inl ⟨d, od, ev, .inl ⟨kvs, hl, q⟩⟩
  · exact .inr ⟨d, kvs, ev, hl, fun od hn => ⟨d, od, ev, .inl ⟨kvs, upd_same, q od hn⟩⟩⟩
theorem si_vals (F : FC n G X) {a : Expr} {ta : Tm} {apos cpos : Pos} (ha : SE n G X a ta) (h1 : methForm a = true) (hl : (apos.endLine == cpos.line) = true) : SI n G X st tg (.Call (.Attribute a "values" apos) [] [] cpos) (.vals ta) := by
  intro W tk M s σ H R Rl h
  unfold evalI at h
  refine ⟨_, pi_values (pe_lockA we) (base_of h1 _ _ _) hl, ?_⟩
  refine ha W tk M s σ H _ Rl (h.bind.imp (fun x ex hx v M1 H1 l1 s1 r1 f1 n1 => ?_) fun _ _ q => q)
  obtain ⟨hw, hx⟩ := PR.guard hx
  obtain ⟨es, he, hx⟩ := PR.val hx.bind (vDic_ne _)
  obtain ⟨s2, r2⟩ := walk_it s1 r1 f1
  have hv := wk_vw (st := st) hw
  have ho := wk_own x
  obtain ⟨m', e⟩ := vDic_wk he
  rw [e] at r2 hv ho
  rcases dict_it (X := X) (R := R) (J := Itd) (es := es.2) s2 r2 ho hv (fun H' a od kvs hd rr hl ek hm => yl_vals rr hl hv hm hd) hx with ⟨d, od, kvs, ev, hl, q⟩ | ⟨d, kvs, ev, hl, q⟩
  · exact .inl ⟨d, od, kvs, ev, hl, q⟩
  · exact .inr ⟨d, kvs, ev, hl, fun od hn => ⟨d, od, kvs, ev, upd_same, q od hn⟩⟩
theorem si_items (F : FC n G X) {a : Expr} {ta : Tm} {apos cpos tpos : Pos} {elts : List Expr} {kk : Nat} (ha : SE n G X a ta) (h1 : methForm a = true) (hl : (apos.endLine == cpos.line) = true) : SI n G X st (.Tuple elts kk tpos) (.Call (.Attribute a "items" apos) [] [] cpos) (.items ta) := by
  intro W tk M s σ H R Rl h
  unfold evalI at h
  refine ⟨_, pi_items (pe_lockA we) (base_of h1 _ _ _) hl, ?_⟩
  refine ha W tk M s σ H _ Rl (h.bind.imp (fun x ex hx v M1 H1 l1 s1 r1 f1 n1 => ?_) fun _ _ q => q)
  obtain ⟨hw, hx⟩ := PR.guard hx
  obtain ⟨es, he, hx⟩ := PR.val hx.bind (vDic_ne _)
  obtain ⟨s2, r2⟩ := walk_it s1 r1 f1
  have hv := wk_vw (st := st) hw
  have ho := wk_own x
  obtain ⟨m', e⟩ := vDic_wk he
  rw [e] at r2 hv ho
  rcases dict_it (X := X) (R := R) (J := Iti) (es := pairs (es.1.map keyD) es.2) s2 r2 ho hv (fun H' a od kvs hd rr hl ek hm => yl_items rr hl hv hm hd) hx with ⟨d, od, kvs, ev, hl, q⟩ | ⟨d, kvs, ev, hl, q⟩
  · exact .inl ⟨d, od, kvs, ev, hl, q⟩
  · exact .inr ⟨d, kvs, ev, hl, fun od hn => ⟨d, od, kvs, ev, upd_same, q od hn⟩⟩
end
end GS

namespace GS
open PySem PySem.Spec PyProof.Rows L2

section
variable {n : Env'} {G : GE} {X : Cx} {W : WX} {M M0 M1 : MM} {H H0 H1 : Hp} {s : Sl} {σ : L2.St} {st : Bool}

/-! ## targets -/
def WG (X : Cx) (e : Expr) : TG := fun v σ H Q => ∃ t, PG X e t ∧ t v σ H Q
theorem wg {e : Expr} : PG X e (WG X e) := ⟨fun pins s σ H v u Q I r ⟨t, h, q⟩ => h.run pins s σ H v u Q I r q⟩
def WGs (X : Cx) (es : List Expr) : TGs := fun vs σ H Q => ∃ t, PGs X es t ∧ t vs σ H Q
theorem wgs {es : List Expr} : PGs X es (WGs X es) := ⟨fun pins s σ H v u Q I r ⟨t, h, q⟩ => h.run pins s σ H v u Q I r q⟩
def locC (sc : Scope) (fn : Str → Bool) (x : Str) : Bool := decide (sc.names.lookup x = some .local) || (decide (sc.names.lookup x = some .cell) && fn x)
mutual
def tgC (N : List Str) (sc : Scope) (fn : Str → Bool) : Tg → Expr → Bool
  | .nm i, .Name x _ => decide (N[i]? = some x) && locC sc fn x
  | .tp gs, .Tuple es _ _ => tgCs N sc fn gs es
  | _, _ => false
def tgCs (N : List Str) (sc : Scope) (fn : Str → Bool) : List Tg → List Expr → Bool
  | [], [] => true
  | g :: gs, e :: es => tgC N sc fn g e && tgCs N sc fn gs es
  | _, _ => false
end
theorem loc_of {sc : Scope} {fn : Str → Bool} {x : Str} (h : locC sc fn x = true) : Loc sc x ∧ (fn x = true ∨ sc.names.lookup x = some .local) := by
  unfold locC at h
  simp only [Bool.or_eq_true, Bool.and_eq_true, decide_eq_true_eq] at h
  rcases h with h | ⟨h, h'⟩
  · exact ⟨.inl h, .inr h⟩
  · exact ⟨.inr h, .inl h'⟩
theorem tgC_form {N : List Str} {sc : Scope} {fn : Str → Bool} {g : Tg} {e : Expr} (h : tgC N sc fn g e = true) (es : List Expr) (env : Env) : assignEach (e :: es) env = (false, assign e env) :: assignEach es env := by
  cases g <;> cases e <;> first | rfl | (unfold tgC at h; cases h)
theorem tgCs_form {N : List Str} {sc : Scope} {fn : Str → Bool} (env : Env) : ∀ {gs : List Tg} {es : List Expr}, tgCs N sc fn gs es = true → (assignEach es env).length = gs.length ∧ (assignEach es env).findIdx? (·.1) = none
  | [], [], _ => ⟨rfl, rfl⟩
  | g :: gs, e :: es, h => by
    unfold tgCs at h
    rw [Bool.and_eq_true] at h
    obtain ⟨i1, i2⟩ := tgCs_form env h.2
    rw [tgC_form h.1 es env]
    exact ⟨by simp [i1], by rw [List.findIdx?_cons]; simp [i2]⟩
  | [], e :: es, h => by unfold tgCs at h; cases h
  | g :: gs, [], h => by unfold tgCs at h; cases h
theorem wipe_set {σ : L2.St} {i : Nat} {v : Option V} : ∀ {vs : List Nat}, i ∈ vs → wipe (σ.set i v) vs = wipe σ vs
  | [], h => nomatch h
  | j :: vs, h => by
    unfold wipe
    by_cases hj : i ∈ vs
    · rw [wipe_set hj]
    · have : i = j := by
        rcases List.mem_cons.mp h with e | e
        · exact e
        · exact absurd e hj
      subst this
      have : ∀ (ws : List Nat), i ∉ ws → wipe (σ.set i v) ws = (wipe σ ws).set i v := fun ws => by
        induction ws with
        | nil => intro _; rfl
        | cons k ws ih =>
          intro hk
          unfold wipe
          rw [ih (fun z => hk (by simp [z])), List.set_comm _ _ (fun z => hk (by simp [z]))]
      rw [this vs hj, List.set_set]
theorem RelS.set {i : Nat} {d : D} {v : V} (R : RelS n.c M s σ H) (r : Rep n.c M H d v []) : RelS n.c M (s.set i (some d)) (σ.set i (some v)) H := ⟨by simp [R.len], R.dom, fun j x e => by
  by_cases hj : i = j
  · subst hj
    rw [List.getElem?_set] at e
    have hl : i < s.length := by
      by_cases hl : i < s.length
      · exact hl
      · rw [if_pos rfl, if_neg hl] at e; cases e
    rw [if_pos rfl, if_pos hl] at e
    cases e
    refine ⟨v, ?_, r⟩
    rw [List.getElem?_set, if_pos rfl, if_pos (by rw [← R.len]; exact hl)]
  · rw [List.getElem?_set_ne hj] at e
    obtain ⟨w, h1, h2⟩ := R.at_ j x e
    exact ⟨w, by rw [List.getElem?_set_ne hj]; exact h1, h2⟩⟩
theorem nil2 {l1 l2 : List Addr} (h : [] = l1 ++ l2) : l1 = [] ∧ l2 = [] := List.append_eq_nil_iff.mp h.symm
mutual
/-- target = d, in a comprehension's block -/
theorem bt_run (F : FXc n X) : ∀ (g : Tg) (e : Expr), tgC X.N X.env.scope X.fn g e = true → ∀ (s : Sl) (σ : L2.St) (d : D) (v : V) (s' : Sl) (Q : L2.St → Hp → Prop), RelS n.c M s σ H → Rep n.c M H d v [] → bindT g d s = some s' →
    (∀ σ', RelS n.c M s' σ' H → (∀ vs, (∀ i ∈ tgNames g, i ∈ vs) → wipe σ' vs = wipe σ vs) → Q σ' H) → WG X e v σ H Q
  | .nm i, .Name x p, h, s, σ, d, v, s', Q, R, r, hb, hq => by
    unfold tgC at h
    rw [Bool.and_eq_true, decide_eq_true_eq] at h
    obtain ⟨h1, h2⟩ := loc_of h.2
    unfold bindT at hb
    cases hb
    exact ⟨_, pg_name F.nd h.1 h1 h2, hq _ (R.set r) fun vs hv => wipe_set (hv i (by unfold tgNames; simp))⟩
  | .tp gs, .Tuple es k p, h, s, σ, d, v, s', Q, R, r, hb, hq => by
    unfold tgC at h
    cases d with
    | tup m ds =>
      unfold bindT at hb
      obtain ⟨a, vs, l', rfl, nx, rr, el⟩ := r
      obtain ⟨f1, f2⟩ := tgCs_form X.env h
      have hl' : l' = [] := by
        have z := el.symm
        cases m <;> first | (simp [consO] at z; done) | exact z
      subst hl'
      refine ⟨_, pg_tup F.calm wgs f1 f2, a, vs, rfl, tup_sqt F.K nx, ?_, ?_⟩
      · exact bts_len gs ds s s' hb ▸ rr.len
      · exact bts_run F gs es h s σ ds vs m s' Q R rr hb fun σ' R' hw => hq σ' R' fun ws hws => hw ws fun i hi => hws i (by unfold tgNames; exact hi)
    | lst m ds =>
      unfold bindT at hb
      obtain ⟨a, vs, l', rfl, nx, rr, el⟩ := r
      obtain ⟨f1, f2⟩ := tgCs_form X.env h
      have hl' : l' = [] := by
        have z := el.symm
        cases m <;> first | (simp [consO] at z; done) | exact z
      subst hl'
      refine ⟨_, pg_lst F.calm wgs f1 f2, a, vs, rfl, lst_sql F.K nx, ?_, ?_⟩
      · exact bts_len gs ds s s' hb ▸ rr.len
      · exact bts_run F gs es h s σ ds vs m s' Q R rr hb fun σ' R' hw => hq σ' R' fun ws hws => hw ws fun i hi => hws i (by unfold tgNames; exact hi)
    | _ => unfold bindT at hb; cases hb
  | .nm i, .Tuple _ _ _, h, _, _, _, _, _, _, _, _, _, _ => by unfold tgC at h; cases h
theorem bts_run (F : FXc n X) : ∀ (gs : List Tg) (es : List Expr), tgCs X.N X.env.scope X.fn gs es = true → ∀ (s : Sl) (σ : L2.St) (ds : List D) (vs : List V) (p : Md) (s' : Sl) (Q : L2.St → Hp → Prop), RelS n.c M s σ H → Reps n.c M H p ds vs [] → bindTs gs ds s = some s' →
    (∀ σ', RelS n.c M s' σ' H → (∀ ws, (∀ i ∈ tgNamess gs, i ∈ ws) → wipe σ' ws = wipe σ ws) → Q σ' H) → WGs X es vs σ H Q
  | [], [], h, s, σ, ds, vs, p, s', Q, R, r, hb, hq => by
    cases ds with
    | nil =>
      unfold bindTs at hb
      cases hb
      obtain ⟨rfl, _⟩ := r
      exact ⟨_, pgs_nil, rfl, hq σ R fun _ _ => rfl⟩
    | cons d ds => unfold bindTs at hb; cases hb
  | g :: gs, e :: es, h, s, σ, ds, vs, p, s', Q, R, r, hb, hq => by
    cases ds with
    | nil => unfold bindTs at hb; cases hb
    | cons d ds =>
      unfold tgCs at h
      rw [Bool.and_eq_true] at h
      obtain ⟨v, vs', l1, l2, rfl, ck, r1, r2, el⟩ := r
      obtain ⟨rfl, rfl⟩ := nil2 el
      unfold bindTs at hb
      obtain ⟨s1, hb1, hb2⟩ := Option.bind_eq_some_iff.mp hb
      refine ⟨_, pgs_cons wg wgs (by rw [tgC_form h.1 es X.env]; rfl), v, vs', rfl, ?_⟩
      refine bt_run F g e h.1 s σ d v s1 _ R r1 hb1 fun σ1 R1 hw1 => ?_
      refine bts_run F gs es h.2 s1 σ1 ds vs' p s' Q R1 r2 hb2 fun σ2 R2 hw2 => hq σ2 R2 fun ws hws => ?_
      unfold tgNamess at hws
      rw [hw2 ws fun i hi => hws i (by simp [hi]), hw1 ws fun i hi => hws i (by simp [hi])]
  | [], e :: es, h, _, _, _, _, _, _, _, _, _, _, _ => by unfold tgCs at h; cases h
  | g :: gs, [], h, _, _, _, _, _, _, _, _, _, _, _ => by unfold tgCs at h; cases h
theorem bts_len : ∀ (gs : List Tg) (ds : List D) (s s' : Sl), bindTs gs ds s = some s' → ds.length = gs.length
  | [], [], _, _, _ => rfl
  | g :: gs, d :: ds, s, s', h => by
    unfold bindTs at h
    obtain ⟨s1, _, h2⟩ := Option.bind_eq_some_iff.mp h
    simp [bts_len gs ds s1 s' h2]
  | [], d :: ds, _, _, h => by unfold bindTs at h; cases h
  | g :: gs, [], _, _, h => by unfold bindTs at h; cases h
end
end
end GS

namespace GS
open PySem PySem.Spec PyProof.Rows L2

section
variable {n : Env'} {G : GE} {X : Cx} {W : WX} {M M0 M1 : MM} {H H0 H1 : Hp} {s : Sl} {σ : L2.St} {st : Bool}

/-! ## comprehensions -/
theorem FC.blk (F : FC n G X) (s : Shared) (H : Hp) (scope : Scope) (cenv : Env) (fp : List Addr) : FC n G (X.blk s H scope cenv fp) :=
  { K := F.K, hu := F.hu, nd := F.nd, call := F.call, make := F.make, xcE := F.xcE, xfE := F.xfE, xm := F.xm, xk := F.xk, xt := F.xt, xi := F.xi, nxm := F.nxm, nxi := F.nxi, cls := F.cls, mki := F.mki, bas := F.bas, glb := F.glb, fok := F.fok, fnm := F.fnm, cnm := F.cnm, free := F.free, ity := F.ity, itk := F.itk, itb := F.itb, inj := F.inj }
theorem wipe_rel (R : RelS n.c M s σ H) : ∀ vs : List Nat, RelS n.c M (wipeS s vs) (wipe σ vs) H
  | [] => R
  | i :: vs => by
    have I := wipe_rel R vs
    refine ⟨?_, R.dom, fun j d e => ?_⟩
    · unfold wipeS wipe; rw [List.length_set, List.length_set]; exact I.len
    · unfold wipeS at e
      by_cases hj : i = j
      · subst hj
        by_cases hl : i < (wipeS s vs).length
        · rw [List.getElem?_set_self hl] at e; cases e
        · rw [List.getElem?_eq_none (by rw [List.length_set]; omega)] at e; cases e
      · rw [List.getElem?_set_ne hj] at e
        obtain ⟨v, h1, h2⟩ := I.at_ j d e
        unfold wipe
        exact ⟨v, by rw [List.getElem?_set_ne hj]; exact h1, h2⟩
/-- a list that only the loop holds changes -/
theorem upd_keep {D0 : Addr} {u : HO} {d : D} {v : V} {l : List Addr} (r : Rep n.c M H d v l) (hm : d.md ≠ .vw) (hn : D0 ∉ l) (ho : M D0 = some .own) : Rep n.c M (upd H D0 u) d v l :=
  Rep.mono d r fun a ha h1 _ => by
    have hne : a ≠ D0 := fun z => by
      subst z
      rcases h1 ho with q | q
      · exact hn q
      · exact hm q
    exact ⟨rfl, .inl (upd_ne hne), fun _ => upd_ne hne⟩
theorem upd_keeps {D0 : Addr} {u : HO} {p : Md} {ds : List D} {vs : List V} {l : List Addr} (r : Reps n.c M H p ds vs l) (hm : p ≠ .vw) (hn : D0 ∉ l) (ho : M D0 = some .own) : Reps n.c M (upd H D0 u) p ds vs l :=
  Reps.mono ds r fun a ha h1 _ => by
    have hne : a ≠ D0 := fun z => by
      subst z
      rcases h1 ho with q | q
      · exact hn q
      · exact hm q
    exact ⟨rfl, .inl (upd_ne hne), fun _ => upd_ne hne⟩
/-- behind an expression a dict that was locked here may be unlocked -/
def tUnlA (X : Cx) (t : TE) : TE := fun σ H Q => t σ H fun x H1 => Q x H1 ∨ ∃ d od u, H1 d = some (.frz od u) ∧ (∀ o' u', X.H_0 d ≠ some (.frz o' u')) ∧ Q x (upd H1 d u)
theorem pe_unlA {e : Expr} {t : TE} (h : PE X e t) : PE X e (tUnlA X t) := by
  refine ⟨fun pins s σ H Q I hw => ?_⟩
  refine thn (h.run pins s σ H _ I hw) fun v s1 ⟨x, H1, I1, r, q⟩ => ?_
  rcases q with q | ⟨d, od, u, hd, hn, q⟩
  · exact ⟨x, H1, I1, r, q⟩
  · exact ⟨x, _, I1.unlock hd hn, r, q⟩
/-- a clause's tests do what their small terms say -/
def PTq (n : Env') (G : GE) (X : Cx) (ifs : List Expr) (ts : List Tm) : Prop := ∃ tt, PTs X ifs tt ∧ ∀ M s σ H Q, RelS n.c M s σ H → PR ((evalIf G ts s).noEx) (PT1 M H Q) (fun _ _ => False) → tt σ H Q
theorem takes_false {s : Shared} {H : Hp} {scope : Scope} {cenv : Env} {fp : List Addr} : Takes (X.blk s H scope cenv fp) (fun _ _ _ _ => False) := fun u s' ⟨a, B, sI, pins, σ, H, cls, d, e, I, nb, up, sky, na, os, ag, w⟩ => w
theorem ptq_nil : PTq n G X [] [] := ⟨_, pts_nil, fun M s σ H Q R h => by
  unfold evalIf at h
  exact h M H (St0.refl R.dom)⟩
theorem ptq_one {c : Expr} {t : Tm} (tk : Takes X (fun _ _ _ _ => False)) (h : ST n G X c t) : PTq n G X [c] [t] := ⟨_, pts_one wt, fun M s σ H Q R hq => by
  refine h _ tk M s σ H Q R ?_
  unfold evalIf at hq
  unfold evalIf at hq
  cases he : evalE G t s with
  | stuck => rw [he] at hq; exact False.elim hq
  | ex c ds => rw [he] at hq; exact False.elim hq
  | ok d =>
    rw [he] at hq
    simp only [Res.bind_ok] at hq ⊢
    cases hv : vTru d with
    | stuck => rw [hv] at hq; exact False.elim hq
    | ex c ds => rw [hv] at hq; exact False.elim hq
    | ok b =>
      rw [hv] at hq
      simp only [Res.bind_ok] at hq
      cases b <;> exact hq⟩
theorem PT1.mono {Q : Bool → Hp → Prop} {M' : MM} {H' : Hp} {b : Bool} (h : PT1 M H Q b) (s : St0 M H M' H') : PT1 M' H' Q b := fun M2 H2 s2 => h M2 H2 (s.trans s2)
theorem compL_len {bnd : D → Option Sl} {tst : Sl → Res Bool} {elt : Sl → Res D} : ∀ {ds ys : List D}, compL bnd tst elt ds = .ok ys → ys.all D.cl = true
  | [], ys, h => by unfold compL at h; cases h; rfl
  | d :: ds, ys, h => by
    unfold compL at h
    cases hb : bnd d with
    | none => rw [hb] at h; cases h
    | some s1 =>
      rw [hb] at h
      simp only [Res.ofOpt_some, Res.bind_ok] at h
      cases ht : tst s1 with
      | stuck => rw [ht] at h; cases h
      | ex c xs => rw [ht] at h; cases h
      | ok b =>
        rw [ht] at h
        simp only [Res.bind_ok] at h
        cases b with
        | false => exact compL_len h
        | true =>
          simp only [if_true] at h
          cases he : elt s1 with
          | stuck => rw [he] at h; cases h
          | ex c xs => rw [he] at h; cases h
          | ok y =>
            rw [he] at h
            simp only [Res.bind_ok] at h
            cases hc : y.cl with
            | false => rw [hc] at h; cases h
            | true =>
              rw [hc] at h
              simp only [Res.guard_true] at h
              cases hr : compL bnd tst elt ds with
              | stuck => rw [hr] at h; cases h
              | ex c xs => rw [hr] at h; cases h
              | ok zs =>
                rw [hr] at h
                simp only [Res.bind_ok] at h
                cases h
                simp [hc, compL_len hr]
theorem wipe_in {σ : L2.St} {k : Nat} : ∀ {vs : List Nat}, k ∈ vs → (wipe σ vs).set k none = wipe σ vs
  | [], h => nomatch h
  | j :: vs, h => by
    show ((wipe σ vs).set j none).set k none = (wipe σ vs).set j none
    by_cases e : k = j
    · subst e; rw [List.set_set]
    · rw [List.set_comm _ _ (fun z => e z.symm), wipe_in ((List.mem_cons.mp h).resolve_left e)]
theorem wipe_wipe {σ : L2.St} (vs : List Nat) : ∀ (ws : List Nat), (∀ i ∈ ws, i ∈ vs) → wipe (wipe σ vs) ws = wipe σ vs
  | [], _ => rfl
  | k :: ws, h => by
    show (wipe (wipe σ vs) ws).set k none = wipe σ vs
    rw [wipe_wipe vs ws fun i hi => h i (by simp [hi]), wipe_in (h k (by simp))]
/-- the state of a comprehension's loop -/
structure LcI (n : Env') (M1 : MM) (H1 : Hp) (D0 : Addr) (Mc : MM) (Hc : Hp) (aD : List D) : Prop where
  st : St0 M1 H1 Mc Hc
  own : Mc D0 = some .own
  acc : ∃ acc l, Hc D0 = some (.lst acc) ∧ Reps n.c Mc Hc .own aD acc l ∧ (∀ a ∈ l, H1 a = none ∧ a ≠ D0) ∧ l.Nodup
theorem lc_run (F : FC n G X) {elt tg iter : Expr} {ifs : List Expr} {scope : Scope} {pos : Pos} {te : Tm} {tgS : Tg} {it : Itr} {tifs : List Tm} {own : List (Str × Nat)} {tt : TT}
    (hown : own.map (·.2) = tgNames tgS) (hi : SI n G X false tg iter it)
    (tk : Takes X W) (R : RelS n.c M s σ H) {Q : VK}
    {g : TG} {teT : TE}
    (hg : ∀ M s σ H d v s' Q, RelS n.c M s σ H → Rep n.c M H d v [] → bindT tgS d s = some s' → (∀ σ', RelS n.c M s' σ' H → (∀ vs, (∀ i ∈ tgNames tgS, i ∈ vs) → wipe σ' vs = wipe σ vs) → Q σ' H) → g v σ H Q)
    (htt : ∀ M s σ H Q, RelS n.c M s σ H → PR ((evalIf G tifs s).noEx) (PT1 M H Q) (fun _ _ => False) → tt σ H Q)
    (hte : ∀ M s σ H Q, RelS n.c M s σ H → PR ((evalE G te s).noEx) (PE1 n M H Q) (fun _ _ => False) → teT σ H Q)
    (h : PR (evalE G (.cmpr te tgS it tifs) s) (PE1 n M H Q) (PX n M H fun cls d H' => W cls d σ H')) :
    tLc (WI X tg iter) g tt teT (own.map (·.2)) σ H fun x H1 => Q x H1 ∨ ∃ d od u, H1 d = some (.frz od u) ∧ (∀ o' u', X.H_0 d ≠ some (.frz o' u')) ∧ Q x (upd H1 d u) := by
  unfold evalE at h
  refine hi W tk M s σ H _ R (h.bind.imp (fun ds ed hd J M1 H1 H1' s1 lk yl => ?_) fun _ _ q => q)
  intro D0 hD0
  rw [hown]
  obtain ⟨ys, hys, hd⟩ := PR.val hd.bind (fun c xs e => by
    have : ∀ ds, compL (fun d => bindT tgS d (wipeS s (tgNames tgS))) (fun s' => (evalIf G tifs s').noEx) (fun s' => (evalE G te s').noEx) ds ≠ .ex c xs := by
      intro ds
      induction ds with
      | nil => intro h; unfold compL at h; cases h
      | cons d ds ih =>
        intro h
        unfold compL at h
        cases hb : bindT tgS d (wipeS s (tgNames tgS)) with
        | none => rw [hb] at h; cases h
        | some s1 =>
          rw [hb] at h
          simp only [Res.ofOpt_some, Res.bind_ok] at h
          cases ht : evalIf G tifs s1 with
          | stuck => rw [ht] at h; cases h
          | ex c xs => rw [ht] at h; cases h
          | ok b =>
            rw [ht] at h
            simp only [Res.noEx_ok, Res.bind_ok] at h
            cases b with
            | false => exact ih h
            | true =>
              simp only [if_true] at h
              cases he : evalE G te s1 with
              | stuck => rw [he] at h; cases h
              | ex c xs => rw [he] at h; cases h
              | ok y =>
                rw [he] at h
                simp only [Res.noEx_ok, Res.bind_ok] at h
                cases hc : y.cl with
                | false => rw [hc] at h; cases h
                | true =>
                  rw [hc] at h
                  simp only [Res.guard_true] at h
                  cases hr : compL (fun d => bindT tgS d (wipeS s (tgNames tgS))) (fun s' => (evalIf G tifs s').noEx) (fun s' => (evalE G te s').noEx) ds with
                  | stuck => rw [hr] at h; cases h
                  | ex c xs => rw [hr] at h; cases h; exact ih hr
                  | ok zs => rw [hr] at h; cases h
    exact this ds e)
  obtain ⟨hlen, hd⟩ := PR.guard hd
  rw [decide_eq_true_eq] at hlen
  have dom1 : Dom M1 H1' := lk.dom s1.d
  have R1 : RelS n.c M1 s σ H1' := (R.step s1).lk lk
  refine ⟨fun i m Hc => m = ds.length - i ∧ i ≤ ds.length ∧ ∃ Mc aD zs, LcI n M1 H1' D0 Mc Hc aD ∧ compL (fun d => bindT tgS d (wipeS s (tgNames tgS))) (fun s' => (evalIf G tifs s').noEx) (fun s' => (evalE G te s').noEx) (ds.drop i) = .ok zs ∧ aD ++ zs = ys, ⟨ds.length, by simp, Nat.zero_le _, layM M1 D0 .own, [], ys, ⟨St0.lay dom1 hD0, layM_same, [], [], upd_same, ⟨rfl, rfl⟩, (fun _ z => nomatch z), .nil⟩, by simpa using hys, rfl⟩, ?_⟩
  rintro i m Hc ⟨rfl, hile, Mc, aD, zs, L, hz, hyz⟩
  obtain ⟨y1, y2⟩ := yl.turn Mc Hc L.st
  obtain ⟨acc, l, hacc, racc, fl, ndl⟩ := L.acc
  by_cases hlt : i < ds.length
  · have hdi : ds[i]? = some ds[i] := List.getElem?_eq_getElem hlt
    obtain ⟨go, yld⟩ := y2 i _ hdi
    refine .inr ⟨go, fun H' => ∃ Mc aD zs, LcI n M1 H1' D0 Mc H' aD ∧ compL (fun d => bindT tgS d (wipeS s (tgNames tgS))) (fun s' => (evalIf G tifs s').noEx) (fun s' => (evalE G te s').noEx) (ds.drop (i + 1)) = .ok zs ∧ aD ++ zs = ys, fun H' q => ⟨ds.length - (i + 1), by omega, rfl, hlt, q⟩, fun x H' hy => ?_⟩
    obtain ⟨M2, s2, r2⟩ := yld x H' hy
    rw [List.drop_eq_getElem_cons hlt] at hz
    unfold compL at hz
    cases hb : bindT tgS ds[i] (wipeS s (tgNames tgS)) with
    | none => rw [hb] at hz; cases hz
    | some s' =>
      rw [hb] at hz
      simp only [Res.ofOpt_some, Res.bind_ok] at hz
      have R2 : RelS n.c M2 (wipeS s (tgNames tgS)) (wipe σ (tgNames tgS)) H' := wipe_rel ((R1.step L.st).step s2) _
      refine hg M2 _ _ H' _ x s' _ R2 r2 hb fun σ2 Rσ hw => ⟨?_, ?_⟩
      · rw [hw _ fun i hi => hi]
        exact wipe_wipe _ _ fun i hi => hi
      · refine htt M2 s' σ2 H' _ Rσ ?_
        cases ht : evalIf G tifs s' with
        | stuck => rw [ht] at hz; cases hz
        | ex c xs => rw [ht] at hz; cases hz
        | ok b =>
          rw [ht] at hz
          simp only [Res.noEx_ok, Res.bind_ok] at hz
          intro M3 H3 s3
          have S3 := (L.st.trans s2).trans s3
          have keepD : H3 D0 = some (.lst acc) ∧ M3 D0 = some .own := by
            have k := (s2.trans s3).k D0 (by rw [hacc]; simp)
            exact ⟨k.1.trans hacc, k.2.trans L.own⟩
          cases b with
          | false =>
            simp only [Bool.false_eq_true, if_false] at hz ⊢
            exact ⟨M3, aD, zs, ⟨S3, keepD.2, acc, l, keepD.1, racc.step L.st.d (s2.trans s3), fl, ndl⟩, hz, hyz⟩
          | true =>
            simp only [if_true] at hz ⊢
            refine hte M3 s' σ2 H3 _ (Rσ.step s3) ?_
            cases he : evalE G te s' with
            | stuck => rw [he] at hz; cases hz
            | ex c xs => rw [he] at hz; cases hz
            | ok y =>
              rw [he] at hz
              simp only [Res.noEx_ok, Res.bind_ok] at hz
              cases hc : y.cl with
              | false => rw [hc] at hz; cases hz
              | true =>
                rw [hc] at hz
                simp only [Res.guard_true] at hz
                cases hr : compL (fun d => bindT tgS d (wipeS s (tgNames tgS))) (fun s' => (evalIf G tifs s').noEx) (fun s' => (evalE G te s').noEx) (ds.drop (i + 1)) with
                | stuck => rw [hr] at hz; cases hz
                | ex c xs => rw [hr] at hz; cases hz
                | ok zs' =>
                  rw [hr] at hz
                  simp only [Res.bind_ok] at hz
                  cases hz
                  intro v M4 H4 l4 s4 r4 f4 n4
                  have S4 := S3.trans s4
                  have hs : St0 Mc Hc M4 H4 := (s2.trans s3).trans s4
                  have kD := s4.k D0 (by rw [keepD.1]; simp)
                  have D4 : H4 D0 = some (.lst acc) := kD.1.trans keepD.1
                  have O4 : M4 D0 = some .own := kD.2.trans keepD.2
                  have ra4 := racc.step L.st.d hs
                  have hDl : D0 ∉ l := fun z => (fl D0 z).2 rfl
                  have hDl4 : D0 ∉ l4 := fun z => by have := f4 D0 z; rw [keepD.1] at this; cases this
                  refine ⟨acc, D4, ?_, M4, aD ++ [y], zs', ⟨⟨fun a ha => ?_, fun a ha => ?_⟩, O4, acc ++ [v], l ++ l4, upd_same, ?_, fun a ha => ?_, ?_⟩, rfl, by rw [← hyz]; simp⟩
                  · rw [racc.len]
                    have : (aD ++ y :: zs').length ≤ sizeLine := by rw [hyz]; exact hlen
                    simp at this
                    omega
                  · have hne : a ≠ D0 := fun z => ha (by rw [z]; exact hD0)
                    rw [upd_ne hne]
                    exact S4.k a ha
                  · by_cases z : a = D0
                    · rw [z, upd_same]; simp
                    · rw [upd_ne z]; exact s4.d a ha
                  · have r4' : Reps n.c M4 H4 .own [y] [v] l4 := ⟨v, [], l4, [], rfl, by rcases cl_md hc with e | e <;> rw [e] <;> rfl, r4, ⟨rfl, rfl⟩, by simp⟩
                    exact upd_keeps (ra4.append r4') (by simp) (fun z => (List.mem_append.mp z).elim hDl hDl4) O4
                  · rcases List.mem_append.mp ha with ha | ha
                    · exact fl a ha
                    · refine ⟨S3.fresh (f4 a ha), fun z => ?_⟩
                      rw [z] at ha
                      exact hDl4 ha
                  · refine List.nodup_append.mpr ⟨ndl, n4, fun a ha b hb e => ?_⟩
                    subst e
                    have := (Reps.owns aD (racc.step L.st.d (s2.trans s3)) a ha).2
                    exact this (f4 a hb)
  · have e : i = ds.length := by omega
    subst e
    rw [List.drop_length] at hz
    unfold compL at hz
    cases hz
    rw [List.append_nil] at hyz
    subst hyz
    refine .inl ⟨y1 _ (Nat.le_refl _), ?_⟩
    have fr : ∀ a ∈ D0 :: l, H1' a = none := fun a ha => by
      rcases List.mem_cons.mp ha with z | z
      · rw [z]; exact hD0
      · exact (fl a z).1
    have nd : (D0 :: l).Nodup := List.nodup_cons.mpr ⟨fun z => (fl D0 z).2 rfl, ndl⟩
    have rD : Rep n.c Mc Hc (.lst .own aD) (.ref D0) (D0 :: l) := ⟨D0, acc, l, rfl, .inl ⟨L.own, hacc⟩, racc, rfl⟩
    rcases lk with e | ⟨q, od, kvs, h1, h2, h3, e, h4⟩
    · rw [e] at fr L
      exact .inl (hd (.ref D0) Mc Hc (D0 :: l) (s1.trans L.st) rD (fun a ha => s1.fresh (fr a ha)) nd)
    · have hq : H1' q = some (.frz od (.dK kvs)) := by rw [e, upd_same]
      have hqc := L.st.k q (by rw [hq]; simp)
      have hl : ∀ a ∈ D0 :: l, a ≠ q := fun a ha z => by have := fr a ha; rw [z, hq] at this; cases this
      refine .inr ⟨q, od, .dK kvs, hqc.1.trans hq, h4, ?_⟩
      have sB : St0 M1 H1 Mc (upd Hc q (.dK kvs)) := ⟨fun a ha => by
        by_cases z : a = q
        · rw [z, upd_same, h1]; exact ⟨rfl, hqc.2⟩
        · have : H1' a = H1 a := by rw [e, upd_ne z]
          have k := L.st.k a (by rw [this]; exact ha)
          exact ⟨by rw [upd_ne z]; exact k.1.trans this, k.2⟩, fun a ha => by
        by_cases z : a = q
        · rw [z, upd_same]; simp
        · rw [upd_ne z]; exact L.st.d a ha⟩
      refine hd (.ref D0) Mc _ (D0 :: l) (s1.trans sB) (Rep.mono _ rD fun a ha _ _ => ⟨rfl, ?_, fun hm => upd_ne (hl a hm)⟩) (fun a ha => ?_) nd
      · by_cases z : a = q
        · subst z
          exact .inr ⟨kvs, .inr ⟨od, hqc.1.trans hq⟩, .inl upd_same⟩
        · exact .inl (upd_ne z)
      · have := fr a ha
        rw [e, upd_ne (hl a ha)] at this
        exact s1.fresh this
theorem se_cmpr (F : FC n G X) (hcm : X.calm = true) {elt tg iter : Expr} {ifs : List Expr} {scope : Scope} {pos : Pos} {te : Tm} {tgS : Tg} {it : Itr} {tifs : List Tm} {own : List (Str × Nat)}
    (hown : own.map (·.2) = tgNames tgS) (hblk : blkC X.N X.env.scope scope own = true) (hi : SI n G X false tg iter it) (ho : okE iter = true)
    (htg : ∀ (s : Shared) (H : Hp) (C : Addr) (cl : List (Str × Addr)) (fp : List Addr), tgC (X.blk s H scope (compEnvC scope cl C X.env) fp).N (X.blk s H scope (compEnvC scope cl C X.env) fp).env.scope (X.blk s H scope (compEnvC scope cl C X.env) fp).fn tgS tg = true)
    (hif : ∀ (s : Shared) (H : Hp) (C : Addr) (cl : List (Str × Addr)) (fp : List Addr), PTq n G (X.blk s H scope (compEnvC scope cl C X.env) fp) ifs tifs)
    (he : ∀ (s : Shared) (H : Hp) (C : Addr) (cl : List (Str × Addr)) (fp : List Addr), SE n G (X.blk s H scope (compEnvC scope cl C X.env) fp) elt te) :
    SE n G X (.ListComp elt [⟨tg, iter, ifs, 0⟩] scope pos) (.cmpr te tgS it tifs) := by
  intro W tk M s σ H Q R h
  refine ⟨_, pe_unlA (pe_lc (own := own) (wi := WI X tg iter)
    (g := fun v σ H Q => ∀ (s : Shared) (H' : Hp) (C : Addr) (cl : List (Str × Addr)) (fp : List Addr), WG (X.blk s H' scope (compEnvC scope cl C X.env) fp) tg v σ H Q)
    (tt := fun σ H Q => ∀ (s : Shared) (H' : Hp) (C : Addr) (cl : List (Str × Addr)) (fp : List Addr), ∃ tt, PTs (X.blk s H' scope (compEnvC scope cl C X.env) fp) ifs tt ∧ tt σ H Q)
    (te := fun σ H Q => ∀ (s : Shared) (H' : Hp) (C : Addr) (cl : List (Str × Addr)) (fp : List Addr), WE (X.blk s H' scope (compEnvC scope cl C X.env) fp) elt σ H Q)
    hcm F.nd wi_ (blkOk_by hblk) (fun s' H' C cl fp => ⟨fun pins sh σ H v u Q I r hw => wg.run pins sh σ H v u Q I r (hw s' H' C cl fp)⟩)
    (fun s' H' C cl fp => ⟨fun pins sh σ H Q I hw => let ⟨tt, h1, h2⟩ := hw s' H' C cl fp; h1.run pins sh σ H Q I h2⟩)
    (fun s' H' C cl fp => ⟨fun pins sh σ H Q I hw => we.run pins sh σ H Q I (hw s' H' C cl fp)⟩) (fun x => okE_fold ho _ x)), ?_⟩
  refine lc_run (own := own) F (ifs := ifs) (elt := elt) (scope := scope) (pos := pos) hown hi tk R ?_ ?_ ?_ h
  · exact fun M s σ H d v s' Q R r hb hq s0 H' C cl fp => bt_run ⟨(F.blk _ _ _ _ _).toFX, hcm⟩ tgS tg (htg s0 H' C cl fp) s σ d v s' Q R r hb hq
  · exact fun M s σ H Q R hq s0 H' C cl fp => let ⟨tt, h1, h2⟩ := hif s0 H' C cl fp; ⟨tt, h1, h2 M s σ H Q R hq⟩
  · exact fun M s σ H Q R hq s0 H' C cl fp => he s0 H' C cl fp _ takes_false M s σ H Q R (PR.noEx hq)
end
end GS

namespace GS
open PySem PySem.Spec PyProof.Rows L2

/-! ## states of statements -/
structure RelL (c : RC) (P : Nat → Option V) (M : MM) (s : Sl) (σ : L2.St) (H : Hp) (L : Nat → List Addr) : Prop where
  len : s.length = σ.length
  dom : Dom M H
  at_ : ∀ (i : Nat) (d : D), s[i]? = some (some d) → ∃ v, σ[i]? = some (some v) ∧ Rep c M H d v (L i) ∧ d.md ≠ .vw
  nd : ∀ i, (L i).Nodup
  dj : ∀ i j a, a ∈ L i → a ∈ L j → i = j
  ow : ∀ i a, a ∈ L i → M a = some .own ∧ H a ≠ none
  par : ∀ i v, P i = some v → σ[i]? = some (some v) ∧ ∃ d, s[i]? = some (some d) ∧ d.md = .own
def Pex (P : Nat → Option V) (s : Sl) : Nat → Option V := fun i => match s[i]? with
  | some (some _) => P i
  | _ => none
def PostS (n : Env') (P : Nat → Option V) (W : WX) (M : MM) (H : Hp) (D : Ends) : Out → Prop
  | .nx s => ∀ M' H' σ' L, StS M H M' H' → RelL n.c P M' s σ' H' L → D.nx σ' H'
  | .bk s => ∀ M' H' σ' L, StS M H M' H' → RelL n.c P M' s σ' H' L → D.bk σ' H'
  | .ct s => ∀ M' H' σ' L, StS M H M' H' → RelL n.c P M' s σ' H' L → D.ct σ' H'
  | .rt d s => ∀ M' H' σ' L v l, d.cl = true → StS M H M' H' → RelL n.c P M' s σ' H' L → Rep n.c M' H' d v l → l.Nodup → (∀ i a, a ∈ l → a ∉ L i) → D.rt v H'
  | .ex c ds s => ∀ M' H' σ' L, StS M H M' H' → RelL n.c (Pex P s) M' s σ' H' L → PX n M' H' (fun cls d H' => W cls d σ' H') c ds
  | .stuck => False
/-- the facts that statements need, too -/
structure FS (n : Env') (G : GE) (X : Cx) : Prop extends FC n G X where
  pass : PassesOwn (model X.prog X.w) X.A X.env X.xe
  stk : X.stack = X.env :: X.outer
  frm : X.env.frame = some X.env.locals
  exn : X.ex = []
def SC (n : Env') (G : GE) (X : Cx) (np : Nat) (st : Stmt) (c : Cm) : Prop := ∀ (W : WX), Takes X W → ∀ (P : Nat → Option V), (∀ i v, P i = some v → i < np) → ∀ M s σ H L D, RelL n.c P M s σ H L → PostS n P W M H D (exec G whileV np c s) → WS X st D σ H
def SCs (n : Env') (G : GE) (X : Cx) (np : Nat) (sts : List Stmt) (cs : List Cm) : Prop := ∀ (W : WX), Takes X W → ∀ (P : Nat → Option V), (∀ i v, P i = some v → i < np) → ∀ M s σ H L D, RelL n.c P M s σ H L → PostS n P W M H D (execs G whileV np cs s) → WSs X sts D σ H

section
variable {n : Env'} {G : GE} {X : Cx} {W : WX} {M M0 M1 M' : MM} {H H0 H1 H' : Hp} {s : Sl} {σ : L2.St} {P : Nat → Option V} {L : Nat → List Addr} {np : Nat} {Dd : Ends}

theorem StS.refl (d : Dom M H) : StS M H M H := ⟨fun _ _ _ => ⟨rfl, rfl⟩, fun _ h => .inl h, d⟩
theorem St0.toS (d : Dom M H) (s : St0 M H M' H') : StS M H M' H' := ⟨fun a ha _ => s.k a ha, fun a e => .inl (by rw [(s.k a (d a (by rw [e]; simp))).2, e]), s.d⟩
theorem StS.trans {M1 M2 : MM} {H1 H2 : Hp} (x : StS M H M1 H1) (y : StS M1 H1 M2 H2) : StS M H M2 H2 := ⟨fun a ha hm => by
  obtain ⟨e1, e2⟩ := x.k a ha hm
  obtain ⟨e3, e4⟩ := y.k a (by rw [e1]; exact ha) (by rw [e2]; exact hm)
  exact ⟨e3.trans e1, e4.trans e2⟩, fun a e => by
  rcases x.o a e with q | q
  · exact y.o a q
  · right
    rw [(y.k a (x.d a (by rw [q]; simp)) (by rw [q]; simp)).2, q], y.d⟩
theorem RelL.view (R : RelL n.c P M s σ H L) : RelS n.c M (viewS s) σ H := ⟨by unfold viewS; rw [List.length_map]; exact R.len, R.dom, fun i d e => by
  unfold viewS at e
  rw [List.getElem?_map] at e
  cases hs : s[i]? with
  | none => rw [hs] at e; cases e
  | some o =>
    rw [hs] at e
    cases o with
    | none => cases e
    | some x =>
      cases e
      obtain ⟨v, h1, h2, _⟩ := R.at_ i x hs
      exact ⟨v, h1, Rep.view x h2⟩⟩
theorem RelL.step (R : RelL n.c P M s σ H L) (st : St0 M H M' H') : RelL n.c P M' s σ H' L := ⟨R.len, st.d, fun i d e => let ⟨v, h1, h2, h3⟩ := R.at_ i d e; ⟨v, h1, h2.step R.dom st, h3⟩, R.nd, R.dj, fun i a ha => by
  obtain ⟨h1, h2⟩ := R.ow i a ha
  obtain ⟨e1, e2⟩ := st.k a h2
  exact ⟨e2.trans h1, by rw [e1]; exact h2⟩, R.par⟩
theorem RelL.pex (R : RelL n.c P M s σ H L) : RelL n.c (Pex P s) M s σ H L := ⟨R.len, R.dom, R.at_, R.nd, R.dj, R.ow, fun i v e => R.par i v (by
  unfold Pex at e
  split at e
  · exact e
  · cases e)⟩
/-- a slot set -/
theorem RelL.put {i : Nat} {d : D} {v : V} {l : List Addr} (R : RelL n.c P M s σ H L) (r : Rep n.c M H d v l) (nd : l.Nodup) (hd : ∀ a ∈ l, ∀ j, a ∉ L j) (hp : P i = none) (hv : d.md ≠ .vw) :
    ∃ L', RelL n.c P M (s.set i (some d)) (σ.set i (some v)) H L' ∧ ∀ j a, a ∈ L' j → a ∈ L j ∨ a ∈ l := by
  by_cases hi : i < s.length
  · refine ⟨fun j => if j = i then l else L j, ⟨by simp [R.len], R.dom, fun j x e => ?_, fun j => ?_, fun j k a h1 h2 => ?_, fun j a h => ?_, fun j w e => ?_⟩, fun j a h => ?_⟩
    · by_cases hj : j = i
      · subst hj
        rw [List.getElem?_set_self hi] at e
        cases e
        refine ⟨v, List.getElem?_set_self (by rw [← R.len]; exact hi), ?_, hv⟩
        simp only [if_true]
        exact r
      · rw [List.getElem?_set_ne (Ne.symm hj)] at e
        obtain ⟨w, h1, h2, h3⟩ := R.at_ j x e
        refine ⟨w, by rw [List.getElem?_set_ne (Ne.symm hj)]; exact h1, ?_, h3⟩
        rw [if_neg hj]; exact h2
    · skip
      split
      · exact nd
      · exact R.nd j
    · skip
      split at h1
      · next e1 =>
        split at h2
        · next e2 => rw [e1, e2]
        · exact absurd h2 (hd a h1 k)
      · split at h2
        · exact absurd h1 (hd a h2 j)
        · exact R.dj j k a h1 h2
    · skip
      split at h
      · exact Rep.owns d r a h
      · exact R.ow j a h
    · have hj : j ≠ i := fun z => by rw [z, hp] at e; cases e
      obtain ⟨h1, x, h2, h3⟩ := R.par j w e
      exact ⟨by rw [List.getElem?_set_ne (Ne.symm hj)]; exact h1, x, by rw [List.getElem?_set_ne (Ne.symm hj)]; exact h2, h3⟩
    · dsimp only at h
      split at h
      · exact .inr h
      · exact .inl h
  · rw [List.set_eq_of_length_le (by omega), List.set_eq_of_length_le (by rw [← R.len]; omega)]
    exact ⟨L, R, fun j a h => .inl h⟩
theorem post_res {α : Type} {r : Res α} {f : α → Out} (R : RelL n.c P M s σ H L) (h : PostS n P W M H Dd (Out.ofRes s r f)) : PR r (fun a => PostS n P W M H Dd (f a)) (PX n M H fun cls d H' => W cls d σ H') := by
  cases r with
  | ok a => exact h
  | ex c ds => exact (show PostS n P W M H Dd (.ex c ds s) from h) M H σ L (StS.refl R.dom) R.pex
  | stuck => exact h
theorem post_opt {o : Option Sl} (h : PostS n P W M H Dd (ofOpt o)) : ∃ s', o = some s' ∧ PostS n P W M H Dd (.nx s') := by
  cases o with
  | none => exact False.elim h
  | some s' => exact ⟨s', rfl, h⟩
theorem PostS.mono {o : Out} (h : PostS n P W M H Dd o) (st : StS M H M1 H1) : PostS n P W M1 H1 Dd o := by
  cases o with
  | nx s => exact fun M' H' σ' L s' R => h M' H' σ' L (st.trans s') R
  | bk s => exact fun M' H' σ' L s' R => h M' H' σ' L (st.trans s') R
  | ct s => exact fun M' H' σ' L s' R => h M' H' σ' L (st.trans s') R
  | rt d s => exact fun M' H' σ' L v l c s' R => h M' H' σ' L v l c (st.trans s') R
  | ex c ds s => exact fun M' H' σ' L s' R => h M' H' σ' L (st.trans s') R
  | stuck => exact h
theorem free_none (R : RelL n.c P M s σ H L) (hP : ∀ i v, P i = some v → i < np) {i : Nat} (h : freeAt np s i = true) : P i = none := by
  cases e : P i with
  | none => rfl
  | some v =>
    obtain ⟨_, d, h1, h2⟩ := R.par i v e
    unfold freeAt at h
    rw [h1] at h
    simp [hP i v e, h2] at h

/-! ### targets -/
mutual
theorem bs_run (F : FXc n X) (hP : ∀ i v, P i = some v → i < np) : ∀ (g : Tg) (e : Expr), tgC X.N X.env.scope X.fn g e = true → ∀ (s : Sl) (σ : L2.St) (L : Nat → List Addr) (d : D) (v : V) (l : List Addr) (s' : Sl) (Q : L2.St → Hp → Prop), RelL n.c P M s σ H L → Rep n.c M H d v l → l.Nodup → (∀ a ∈ l, ∀ j, a ∉ L j) → bindS np g d s = some s' →
    (∀ σ' L', RelL n.c P M s' σ' H L' → (∀ j a, a ∈ L' j → a ∈ L j ∨ a ∈ l) → Q σ' H) → WG X e v σ H Q
  | .nm i, .Name x p, h, s, σ, L, d, v, l, s', Q, R, r, nd, hd, hb, hq => by
    unfold tgC at h
    rw [Bool.and_eq_true, decide_eq_true_eq] at h
    obtain ⟨h1, h2⟩ := loc_of h.2
    unfold bindS setS at hb
    split at hb
    · next hc =>
      rw [Bool.and_eq_true] at hc
      cases hb
      obtain ⟨L', R', hl⟩ := R.put r nd hd (free_none R hP hc.1) (by have := hc.2; unfold notVw at this; simpa using this)
      exact ⟨_, pg_name F.nd h.1 h1 h2, hq _ L' R' hl⟩
    · cases hb
  | .tp gs, .Tuple es k p, h, s, σ, L, d, v, l, s', Q, R, r, nd, hd, hb, hq => by
    unfold tgC at h
    cases d with
    | tup m ds =>
      unfold bindS at hb
      obtain ⟨a, vs, l', rfl, nx, rr, el⟩ := r
      obtain ⟨f1, f2⟩ := tgCs_form X.env h
      have hs : l'.Sublist l := by rw [el]; exact consO_sub _ _ _
      refine ⟨_, pg_tup F.calm wgs f1 f2, a, vs, rfl, tup_sqt F.K nx, ?_, ?_⟩
      · exact bss_len gs ds s s' hb ▸ rr.len
      · exact bss_run F hP gs es h s σ L ds vs l' m s' Q R rr (nd.sublist hs) (fun a ha => hd a (hs.subset ha)) hb fun σ' L' R' hl => hq σ' L' R' fun j a ha => (hl j a ha).imp id fun z => hs.subset z
    | lst m ds =>
      unfold bindS at hb
      obtain ⟨a, vs, l', rfl, nx, rr, el⟩ := r
      obtain ⟨f1, f2⟩ := tgCs_form X.env h
      have hs : l'.Sublist l := by rw [el]; exact consO_sub _ _ _
      refine ⟨_, pg_lst F.calm wgs f1 f2, a, vs, rfl, lst_sql F.K nx, ?_, ?_⟩
      · exact bss_len gs ds s s' hb ▸ rr.len
      · exact bss_run F hP gs es h s σ L ds vs l' m s' Q R rr (nd.sublist hs) (fun a ha => hd a (hs.subset ha)) hb fun σ' L' R' hl => hq σ' L' R' fun j a ha => (hl j a ha).imp id fun z => hs.subset z
    | _ => unfold bindS at hb; cases hb
  | .nm i, .Tuple _ _ _, h, _, _, _, _, _, _, _, _, _, _, _, _, _, _ => by unfold tgC at h; cases h
theorem bss_run (F : FXc n X) (hP : ∀ i v, P i = some v → i < np) : ∀ (gs : List Tg) (es : List Expr), tgCs X.N X.env.scope X.fn gs es = true → ∀ (s : Sl) (σ : L2.St) (L : Nat → List Addr) (ds : List D) (vs : List V) (l : List Addr) (p : Md) (s' : Sl) (Q : L2.St → Hp → Prop), RelL n.c P M s σ H L → Reps n.c M H p ds vs l → l.Nodup → (∀ a ∈ l, ∀ j, a ∉ L j) → bindSs np gs ds s = some s' →
    (∀ σ' L', RelL n.c P M s' σ' H L' → (∀ j a, a ∈ L' j → a ∈ L j ∨ a ∈ l) → Q σ' H) → WGs X es vs σ H Q
  | [], [], h, s, σ, L, ds, vs, l, p, s', Q, R, r, nd, hd, hb, hq => by
    cases ds with
    | nil =>
      unfold bindSs at hb
      cases hb
      obtain ⟨rfl, _⟩ := r
      exact ⟨_, pgs_nil, rfl, hq σ L R fun _ _ h => .inl h⟩
    | cons d ds => unfold bindSs at hb; cases hb
  | g :: gs, e :: es, h, s, σ, L, ds, vs, l, p, s', Q, R, r, nd, hd, hb, hq => by
    cases ds with
    | nil => unfold bindSs at hb; cases hb
    | cons d ds =>
      unfold tgCs at h
      rw [Bool.and_eq_true] at h
      obtain ⟨v, vs', l1, l2, rfl, ck, r1, r2, el⟩ := r
      subst el
      unfold bindSs at hb
      obtain ⟨s1, hb1, hb2⟩ := Option.bind_eq_some_iff.mp hb
      obtain ⟨n1, n2, n3⟩ := List.nodup_append.mp nd
      refine ⟨_, pgs_cons wg wgs (by rw [tgC_form h.1 es X.env]; rfl), v, vs', rfl, ?_⟩
      refine bs_run F hP g e h.1 s σ L d v l1 s1 _ R r1 n1 (fun a ha => hd a (by simp [ha])) hb1 fun σ1 L1 R1 hl1 => ?_
      refine bss_run F hP gs es h.2 s1 σ1 L1 ds vs' l2 p s' Q R1 r2 n2 (fun a ha j hj => ?_) hb2 fun σ2 L2 R2 hl2 => hq σ2 L2 R2 fun j a ha => ?_
      · rcases hl1 j a hj with z | z
        · exact hd a (by simp [ha]) j z
        · exact n3 a z a ha rfl
      · rcases hl2 j a ha with z | z
        · exact (hl1 j a z).imp id fun q => by simp [q]
        · exact .inr (by simp [z])
  | [], e :: es, h, _, _, _, _, _, _, _, _, _, _, _, _, _, _, _ => by unfold tgCs at h; cases h
  | g :: gs, [], h, _, _, _, _, _, _, _, _, _, _, _, _, _, _, _ => by unfold tgCs at h; cases h
theorem bss_len : ∀ (gs : List Tg) (ds : List D) (s s' : Sl), bindSs np gs ds s = some s' → ds.length = gs.length
  | [], [], _, _, _ => rfl
  | g :: gs, d :: ds, s, s', h => by
    unfold bindSs at h
    obtain ⟨s1, _, h2⟩ := Option.bind_eq_some_iff.mp h
    simp [bss_len gs ds s1 s' h2]
  | [], d :: ds, _, _, h => by unfold bindSs at h; cases h
  | g :: gs, [], _, _, h => by unfold bindSs at h; cases h
end

/-! ### simple statements -/
theorem fresh_L (R : RelL n.c P M s σ H L) {l : List Addr} (f : ∀ a ∈ l, H a = none) : ∀ a ∈ l, ∀ j, a ∉ L j := fun a ha j hj => (R.ow j a hj).2 (f a ha)
theorem sc_set (F : FS n G X) {i : Nat} {x : Str} {e : Expr} {t : Tm} {pos pos' : Pos} (hN : X.N[i]? = some x) (hx : locC X.env.scope X.fn x = true) (he : SE n G X e t) (hs : swapsWith e (some (.Name x pos')) pos.line X.env = pure false) : SC n G X np (.Assign [.Name x pos'] e pos) (.set i t) := by
  intro W tk P hP M s σ H L D R h
  unfold exec at h
  obtain ⟨h1, h2⟩ := loc_of hx
  refine ⟨_, ps_set F.nd hN h1 we hs h2, ?_⟩
  refine he W tk M _ σ H _ R.view ((post_res R h).imp (fun d ed hd v M1 H1 l s1 r f nd => ?_) fun _ _ q => q)
  obtain ⟨s', hs', hd⟩ := post_opt hd
  unfold setS at hs'
  split at hs'
  · next hc =>
    rw [Bool.and_eq_true] at hc
    cases hs'
    obtain ⟨L', R', _⟩ := (R.step s1).put r nd (fresh_L R f) (free_none R hP hc.1) (by have := hc.2; unfold notVw at this; simpa using this)
    exact hd M1 H1 _ L' (s1.toS R.dom) R'
  · cases hs'
theorem sc_unp (F : FS n G X) (hcm : X.calm = true) {tg e : Expr} {g : Tg} {t : Tm} {pos : Pos} (htg : tgC X.N X.env.scope X.fn g tg = true) (he : SE n G X e t) (hs : swapsWithSole [tg] e pos.line X.env = pure false) (hw : swappedStores [tg] e X.env = pure none) : SC n G X np (.Assign [tg] e pos) (.unp g t) := by
  intro W tk P hP M s σ H L D R h
  unfold exec at h
  refine ⟨_, ps_asg we wg hs hw (by rw [tgC_form htg [] X.env]; rfl), ?_⟩
  refine he W tk M _ σ H _ R.view ((post_res R h).imp (fun d ed hd v M1 H1 l s1 r f nd => ?_) fun _ _ q => q)
  obtain ⟨s', hs', hd⟩ := post_opt hd
  exact bs_run ⟨F.toFX, hcm⟩ hP g tg htg s σ L d v l s' _ (R.step s1) r nd (fresh_L R f) hs' fun σ' L' R' _ => hd M1 H1 σ' L' (s1.toS R.dom) R'
theorem sc_ex (F : FS n G X) {e : Expr} {t : Tm} {pos : Pos} (he : SE n G X e t) (hs : swapsWith e none pos.line X.env = pure false) : SC n G X np (.Expr e pos) (.ex t) := by
  intro W tk P hP M s σ H L D R h
  unfold exec at h
  refine ⟨_, ps_expr we hs, ?_⟩
  exact he W tk M _ σ H _ R.view ((post_res R h).imp (fun d ed hd v M1 H1 l s1 r f nd => hd M1 H1 σ L (s1.toS R.dom) (R.step s1)) fun _ _ q => q)
theorem sc_doc {x : Str} {j : Nat} {p pos : Pos} : SC n G X np (.Expr (.Constant (.str x) j p) pos) .pas := by
  intro W tk P hP M s σ H L D R h
  unfold exec at h
  exact ⟨_, ps_doc, h M H σ L (StS.refl R.dom) R⟩
theorem sc_pas {pos : Pos} : SC n G X np (.Pass pos) .pas := by
  intro W tk P hP M s σ H L D R h
  unfold exec at h
  exact ⟨_, ps_pass, h M H σ L (StS.refl R.dom) R⟩
theorem sc_brk {pos : Pos} : SC n G X np (.Break pos) .brk := by
  intro W tk P hP M s σ H L D R h
  unfold exec at h
  exact ⟨_, ps_break, h M H σ L (StS.refl R.dom) R⟩
theorem sc_cnt {pos : Pos} : SC n G X np (.Continue pos) .cnt := by
  intro W tk P hP M s σ H L D R h
  unfold exec at h
  exact ⟨_, ps_continue, h M H σ L (StS.refl R.dom) R⟩
theorem sc_never {st : Stmt} : SC n G X np st .never := by
  intro W tk P hP M s σ H L D R h
  unfold exec at h
  exact False.elim h
theorem sc_ret (F : FS n G X) {e : Expr} {t : Tm} {pos : Pos} (he : SE n G X e t) : SC n G X np (.Return (some e) pos) (.ret t) := by
  intro W tk P hP M s σ H L D R h
  unfold exec at h
  refine ⟨_, ps_ret we, ?_⟩
  refine he W tk M _ σ H _ R.view ((post_res R h).imp (fun d ed hd v M1 H1 l s1 r f nd => ?_) fun _ _ q => q)
  split at hd
  · next hc => exact hd M1 H1 σ L v l hc (s1.toS R.dom) (R.step s1) r nd fun i a ha => fresh_L R f a ha i
  · exact False.elim hd
theorem sc_ret0 {pos : Pos} : SC n G X np (.Return none pos) .ret0 := by
  intro W tk P hP M s σ H L D R h
  unfold exec at h
  exact ⟨_, ps_retN, h M H σ L .non [] rfl (StS.refl R.dom) R ⟨rfl, rfl⟩ .nil fun _ _ z => nomatch z⟩
/-- a slot forgotten -/
theorem RelL.drop {i : Nat} (R : RelL n.c P M s σ H L) (hp : P i = none) : RelL n.c P M (s.set i none) σ H (fun j => if j = i then [] else L j) := by
  refine ⟨by simp [R.len], R.dom, fun j x e => ?_, fun j => ?_, fun j k a h1 h2 => ?_, fun j a h => ?_, fun j w e => ?_⟩
  · by_cases hj : j = i
    · subst hj
      by_cases hi : j < s.length
      · rw [List.getElem?_set_self hi] at e; cases e
      · rw [List.getElem?_eq_none (by rw [List.length_set]; omega)] at e; cases e
    · rw [List.getElem?_set_ne (Ne.symm hj)] at e
      rw [if_neg hj]
      exact R.at_ j x e
  · skip
    split
    · exact .nil
    · exact R.nd j
  · skip
    split at h1
    · cases h1
    · split at h2
      · cases h2
      · exact R.dj j k a h1 h2
  · skip
    split at h
    · cases h
    · exact R.ow j a h
  · have hj : j ≠ i := fun z => by rw [z, hp] at e; cases e
    obtain ⟨h1, x, h2, h3⟩ := R.par j w e
    exact ⟨h1, x, by rw [List.getElem?_set_ne (Ne.symm hj)]; exact h2, h3⟩
theorem sc_retv (F : FS n G X) {i : Nat} {x : Str} {p pos : Pos} (hN : X.N[i]? = some x) (hv : Vis X.env.scope x) (hd : (x == ("__debug__" : Str)) = false) (hcd : (x == ("__classdict__" : Str)) = false) : SC n G X np (.Return (some (.Name x p)) pos) (.retv i) := by
  intro W tk P hP M s σ H L D R h
  unfold exec at h
  split at h
  · next d e =>
    split at h
    · next hc =>
      rw [Bool.and_eq_true, decide_eq_true_eq] at hc
      obtain ⟨v, e1, r, _⟩ := R.at_ i d e
      have hp : P i = none := by
        cases q : P i with
        | none => rfl
        | some w => have := hP i w q; omega
      refine ⟨_, ps_ret (pe_var hN hv hd hcd), v, e1, h M H σ _ v (L i) hc.1 (StS.refl R.dom) (R.drop hp) r (R.nd i) fun j a ha hj => ?_⟩
      split at hj
      · cases hj
      · next hne => exact hne (R.dj j i a hj ha)
    · exact False.elim h
  · exact False.elim h
theorem scs_nil : SCs n G X np [] [] := by
  intro W tk P hP M s σ H L D R h
  unfold execs at h
  exact ⟨_, pss_nil, h M H σ L (StS.refl R.dom) R⟩
theorem post_bind {o : Out} {f : Sl → Out} {Q : L2.St → Hp → Prop} (h : PostS n P W M H Dd (o.bind f)) (hq : ∀ s', o = .nx s' → ∀ M' H' σ' L, StS M H M' H' → RelL n.c P M' s' σ' H' L → PostS n P W M' H' Dd (f s') → Q σ' H') : PostS n P W M H { Dd with nx := Q } o := by
  cases o with
  | nx s => exact fun M' H' σ' L st R => hq s rfl M' H' σ' L st R (PostS.mono h st)
  | bk s => exact h
  | ct s => exact h
  | rt d s => exact h
  | ex c ds s => exact h
  | stuck => exact h
theorem scs_cons {st : Stmt} {sts : List Stmt} {c : Cm} {cs : List Cm} (h1 : SC n G X np st c) (h2 : SCs n G X np sts cs) : SCs n G X np (st :: sts) (c :: cs) := by
  intro W tk P hP M s σ H L D R h
  unfold execs at h
  refine ⟨_, pss_cons ws wss, ?_⟩
  exact h1 W tk P hP M s σ H L _ R (post_bind h fun s' _ M' H' σ' L' st R' hh => h2 W tk P hP M' s' σ' H' L' D R' hh)
theorem sc_ite {c : Expr} {a b : List Stmt} {tc : Tm} {ca cb : List Cm} {pos : Pos} (hc : ST n G X c tc) (ha : SCs n G X np a ca) (hb : SCs n G X np b cb) : SC n G X np (.If c a b pos) (.ite tc ca cb) := by
  intro W tk P hP M s σ H L D R h
  unfold exec at h
  refine ⟨_, ps_if wt wss wss, ?_⟩
  refine hc W tk M _ σ H _ R.view ((post_res R h).imp (fun r er hr M1 H1 s1 => ?_) fun _ _ q => q)
  cases r with
  | true => exact ha W tk P hP M1 s σ H1 L D (R.step s1) (PostS.mono (show PostS n P W M H D (execs G whileV np ca s) from hr) (s1.toS R.dom))
  | false => exact hb W tk P hP M1 s σ H1 L D (R.step s1) (PostS.mono (show PostS n P W M H D (execs G whileV np cb s) from hr) (s1.toS R.dom))
end
end GS

namespace GS
open PySem PySem.Spec PyProof.Rows L2

section
variable {n : Env'} {G : GE} {X : Cx} {W : WX} {M M0 M1 M' : MM} {H H0 H1 H' : Hp} {s : Sl} {σ : L2.St} {P : Nat → Option V} {L : Nat → List Addr} {np : Nat} {Dd : Ends}

/-! ## ghosts -/
/-- a slot's tree, some of it frozen -/
theorem RelL.frzAt {i : Nat} {d d' : D} {K K' : List Addr} (R : RelL n.c P M s σ H L) (hi : s[i]? = some (some d)) (hK : ∀ a ∈ K, a ∈ L i) (hK' : ∀ a ∈ K', a ∈ L i) (nd : K'.Nodup) (hr : ∀ v, Rep n.c M H d v (L i) → Rep n.c (frzM M K) H d' v K') (hv : d'.md ≠ .vw)
    (hp : P i = none ∨ d'.md = .own) : RelL n.c P (frzM M K) (s.set i (some d')) σ H (fun j => if j = i then K' else L j) := by
  have hlen : i < s.length := (List.getElem?_eq_some_iff.mp hi).1
  have own : ∀ a ∈ K, M a = some .own := fun a ha => (R.ow i a (hK a ha)).1
  refine ⟨by simp [R.len], R.dom.frz own, fun j x e => ?_, fun j => ?_, fun j k a h1 h2 => ?_, fun j a h => ?_, fun j w e => ?_⟩
  · by_cases hj : j = i
    · subst hj
      rw [List.getElem?_set_self hlen] at e
      cases e
      obtain ⟨v, e1, r, _⟩ := R.at_ j d hi
      rw [if_pos rfl]
      exact ⟨v, e1, hr v r, hv⟩
    · rw [List.getElem?_set_ne (Ne.symm hj)] at e
      obtain ⟨v, e1, r, hm⟩ := R.at_ j x e
      rw [if_neg hj]
      exact ⟨v, e1, frz_other r own fun a ha z => hj (R.dj j i a ha (hK a z)), hm⟩
  · split
    · exact nd
    · exact R.nd j
  · have sub : ∀ {j a}, a ∈ (if j = i then K' else L j) → a ∈ L j := fun {j a} h => by
      split at h
      · next e => rw [e]; exact hK' a h
      · exact h
    exact R.dj j k a (sub h1) (sub h2)
  · by_cases hj : j = i
    · subst hj
      rw [if_pos rfl] at h
      obtain ⟨v, e1, r, _⟩ := R.at_ j d hi
      have := Rep.owns d' (hr v r) a h
      exact this
    · rw [if_neg hj] at h
      obtain ⟨h1, h2⟩ := R.ow j a h
      exact ⟨(frzM_out fun z => hj (R.dj j i a h (hK a z))).trans h1, h2⟩
  · obtain ⟨h1, x, h2, h3⟩ := R.par j w e
    by_cases hj : j = i
    · subst hj
      rcases hp with z | z
      · rw [z] at e; cases e
      · exact ⟨h1, d', List.getElem?_set_self hlen, z⟩
    · exact ⟨h1, x, by rw [List.getElem?_set_ne (Ne.symm hj)]; exact h2, h3⟩
theorem stS_frz {K : List Addr} (d : Dom M H) (hK : ∀ a ∈ K, M a = some .own) : StS M H (frzM M K) H := ⟨fun a ha hm => ⟨rfl, frzM_out fun z => hm (hK a z)⟩, fun a e => by
  by_cases z : a ∈ K
  · exact .inr (frzM_in z)
  · exact .inl ((frzM_out z).trans e), d.frz hK⟩
theorem scs_frz {sts : List Stmt} {i : Nat} {cs : List Cm} (h2 : SCs n G X np sts cs) : SCs n G X np sts (.frz i :: cs) := by
  intro W tk P hP M s σ H L De R h
  unfold execs exec at h
  split at h
  · next d e =>
    split at h
    · next hc =>
      have hp := free_none R hP hc
      by_cases ho : d.md = .own
      · have own : ∀ a ∈ L i, M a = some .own := fun a ha => (R.ow i a ha).1
        have R' := RelL.frzAt (d' := d.own2 .fz) (K := L i) (K' := []) R e (fun _ z => z) (fun _ z => nomatch z) .nil (fun v r => Rep.freeze (L i) d r (fun _ z => z) own (by unfold D.cl; rw [ho])) (by rw [own2_md, if_pos ho]; simp) (.inl hp)
        exact h2 W tk P hP _ _ σ H _ De R' (PostS.mono (show PostS n P W M H De (execs G whileV np cs (s.set i (some (d.own2 .fz)))) from h) (stS_frz R.dom own))
      · have e2 : s.set i (some (d.own2 .fz)) = s := by
          rw [own2_id ho]
          apply List.ext_getElem?
          intro j
          by_cases hj : i = j
          · subst hj
            rw [List.getElem?_set_self (List.getElem?_eq_some_iff.mp e).1, e]
          · rw [List.getElem?_set_ne hj]
        rw [e2] at h
        exact h2 W tk P hP M s σ H L De R h
    · exact False.elim h
  · exact False.elim h
/-- a slot that is forgotten -/
theorem scs_kil {sts : List Stmt} {i : Nat} {cs : List Cm} (h2 : SCs n G X np sts cs) : SCs n G X np sts (.kil i :: cs) := by
  intro W tk P hP M s σ H L De R h
  unfold execs exec at h
  split at h
  · next hi =>
    have hp : P i = none := by
      cases e : P i with
      | none => rfl
      | some v => have := hP i v e; omega
    exact h2 W tk P hP M _ σ H _ De (R.drop hp) h
  · exact False.elim h
theorem Reps.frzU {L0 : List Addr} {ds : List D} {vs : List V} {l : List Addr} (r : Reps n.c M H .own ds vs l) (hs : ∀ a ∈ l, a ∈ L0) (hL : ∀ a ∈ L0, M a = some .own) : Reps n.c (frzM M L0) H .own (D.own2s .fz ds) vs [] := (Reps.freeze L0 ds r hs hL).under
theorem scs_frzc {sts : List Stmt} {i : Nat} {cs : List Cm} (h2 : SCs n G X np sts cs) : SCs n G X np sts (.frzc i :: cs) := by
  intro W tk P hP M s σ H L De R h
  unfold execs exec at h
  split at h
  · next ds e =>
    obtain ⟨v, e1, r, _⟩ := R.at_ i _ e
    obtain ⟨a, vs, l', rfl, nx, rr, el⟩ := r
    have el : L i = a :: l' := el
    have own : ∀ b ∈ l', M b = some .own := fun b hb => (R.ow i b (by rw [el]; simp [hb])).1
    have nd := R.nd i
    rw [el] at nd
    have hna : a ∉ l' := (List.nodup_cons.mp nd).1
    have R' := RelL.frzAt (d' := .lst .own (D.own2s .fz ds)) (K := l') (K' := [a]) R e (fun b hb => by rw [el]; simp [hb]) (fun b hb => by rw [el]; simp at hb; simp [hb]) (by simp) (fun v r => by
      obtain ⟨a', vs', l'', ev, nx', rr', el'⟩ := r
      have el' : L i = a' :: l'' := el'
      rw [el] at el'
      cases el'
      rcases nx' with nx' | nx'
      · exact ⟨a, vs', [], ev, .inl ⟨(frzM_out hna).trans nx'.1, nx'.2⟩, rr'.frzU (fun _ z => z) own, rfl⟩
      · cases nx'.1) (by simp [D.md]) (.inr rfl)
    exact h2 W tk P hP _ _ σ H _ De R' (PostS.mono (show PostS n P W M H De (execs G whileV np cs (s.set i (some (.lst .own (D.own2s .fz ds))))) from h) (stS_frz R.dom own))
  · next ks ds e =>
    obtain ⟨v, e1, r, _⟩ := R.at_ i _ e
    obtain ⟨a, kvs, l', rfl, nx, ek, rr, el⟩ := r
    have el : L i = a :: l' := el
    have own : ∀ b ∈ l', M b = some .own := fun b hb => (R.ow i b (by rw [el]; simp [hb])).1
    have nd := R.nd i
    rw [el] at nd
    have hna : a ∉ l' := (List.nodup_cons.mp nd).1
    have R' := RelL.frzAt (d' := .dic .own ks (D.own2s .fz ds)) (K := l') (K' := [a]) R e (fun b hb => by rw [el]; simp [hb]) (fun b hb => by rw [el]; simp at hb; simp [hb]) (by simp) (fun v r => by
      obtain ⟨a', vs', l'', ev, nx', ek', rr', el'⟩ := r
      have el' : L i = a' :: l'' := el'
      rw [el] at el'
      cases el'
      exact ⟨a, vs', [], ev, ⟨(frzM_out hna).trans nx'.1, nx'.2.1, nx'.2.2⟩, ek', rr'.frzU (fun _ z => z) own, rfl⟩) (by simp [D.md]) (.inr rfl)
    exact h2 W tk P hP _ _ σ H _ De R' (PostS.mono (show PostS n P W M H De (execs G whileV np cs (s.set i (some (.dic .own ks (D.own2s .fz ds))))) from h) (stS_frz R.dom own))
  · exact False.elim h

/-! ## loops -/
/-- as Q, or as Q behind unlocking a dict that was locked here -/
def Ul (X : Cx) (Q : Hp → Prop) (H : Hp) : Prop := Q H ∨ ∃ d od u, H d = some (.frz od u) ∧ (∀ o' u', X.H_0 d ≠ some (.frz o' u')) ∧ Q (upd H d u)
theorem ul_run {pins : List (Addr × Obj)} {sh : Shared} {Q : Hp → Prop} (I : Inv X pins σ H sh) (h : Ul X Q H) : ∃ H', Inv X pins σ H' sh ∧ Q H' := by
  rcases h with q | ⟨d, od, u, hd, hn, q⟩
  · exact ⟨H, I, q⟩
  · exact ⟨_, I.unlock hd hn, q⟩
def endU (X : Cx) (D : Ends) : Ends := ⟨fun σ H => Ul X (D.nx σ) H, fun v H => Ul X (D.rt v) H, fun σ H => Ul X (D.bk σ) H, fun σ H => Ul X (D.ct σ) H⟩
theorem ps_unl {st : Stmt} {t : TS} (h : PS X st t) : PS X st (fun D σ H => t (endU X D) σ H) := by
  refine ⟨fun pins s σ H D I hw => ?_⟩
  refine thn (h.run pins s σ H _ I hw) fun f s1 q => ?_
  cases f with
  | next => obtain ⟨σ', H', I2, q⟩ := q; obtain ⟨H2, I3, q⟩ := ul_run I2 q; exact ⟨σ', H2, I3, q⟩
  | brk => obtain ⟨σ', H', I2, q⟩ := q; obtain ⟨H2, I3, q⟩ := ul_run I2 q; exact ⟨σ', H2, I3, q⟩
  | cont => obtain ⟨σ', H', I2, q⟩ := q; obtain ⟨H2, I3, q⟩ := ul_run I2 q; exact ⟨σ', H2, I3, q⟩
  | ret v => obtain ⟨x, σ', H', I2, r, q⟩ := q; obtain ⟨H2, I3, q⟩ := ul_run I2 q; exact ⟨x, σ', H2, I3, r, q⟩
/-- the state behind unlocking -/
structure UnlT (n : Env') (X : Cx) (P : Nat → Option V) (M : MM) (H : Hp) (M' : MM) (H' Hu : Hp) (L : Nat → List Addr) : Prop where
  ul : ∀ Q : Hp → Prop, Q Hu → Ul X Q H'
  st : StS M H M' Hu
  rel : ∀ P s σ, RelL n.c P M' s σ H' L → RelL n.c P M' s σ Hu L
  rep : ∀ d v l, (∀ a ∈ l, M' a = some .own) → Rep n.c M' H' d v l → Rep n.c M' Hu d v l
  px : ∀ W c ds, PX n M' Hu W c ds → PX n M' H' W c ds
theorem unl_of (s1 : St0 M H M1 H1) (dM : Dom M H) (lk : Lk X true M1 H1 H0) (st : StS M1 H0 M' H') (L : Nat → List Addr) : ∃ Hu, UnlT n X P M H M' H' Hu L := by
  rcases lk with e | ⟨q, od, kvs, h1, h2, h3, e, h4⟩
  · subst e
    exact ⟨H', fun _ h => .inl h, (s1.toS dM).trans st, fun _ _ _ R => R, fun _ _ _ _ r => r, fun _ _ _ h => h⟩
  · have hq : H0 q = some (.frz od (.dK kvs)) := by rw [e, upd_same]
    have hmq := h3 rfl
    obtain ⟨q1, q2⟩ := st.k q (by rw [hq]; simp) hmq
    have hq' : H' q = some (.frz od (.dK kvs)) := q1.trans hq
    have mo : M' q ≠ some .own := by rw [q2]; exact hmq
    have k1 : ∀ a, Keep1 H' (upd H' q (.dK kvs)) a := fun a => by
      by_cases z : a = q
      · subst z; exact .inr ⟨kvs, .inr ⟨od, hq'⟩, .inl upd_same⟩
      · exact .inl (upd_ne z)
    have hrep : ∀ d v l, (∀ a ∈ l, M' a = some .own) → Rep n.c M' H' d v l → Rep n.c M' (upd H' q (.dK kvs)) d v l := fun d v l hl r => Rep.mono d r fun a ha _ _ => ⟨rfl, k1 a, fun hm => upd_ne fun z => mo (by rw [← z]; exact hl a hm)⟩
    refine ⟨upd H' q (.dK kvs), fun Q h => .inr ⟨q, od, .dK kvs, hq', h4, h⟩, ?_, fun P s σ R => ?_, hrep, fun W c ds h dx M2 H2 s2 x => ?_⟩
    · refine (s1.toS dM).trans ⟨fun a ha hm => ?_, st.o, fun a ha => ?_⟩
      · by_cases z : a = q
        · rw [z, upd_same, h1]; exact ⟨rfl, q2⟩
        · have e1 : H0 a = H1 a := by rw [e, upd_ne z]
          obtain ⟨e2, e3⟩ := st.k a (by rw [e1]; exact ha) hm
          exact ⟨by rw [upd_ne z, e2, e1], e3⟩
      · by_cases z : a = q
        · rw [z, upd_same]; simp
        · rw [upd_ne z]; exact st.d a ha
    · refine ⟨R.len, fun a ha => (k1 a).there (R.dom a ha), fun i d e => ?_, R.nd, R.dj, fun i a ha => ?_, R.par⟩
      · obtain ⟨v, e1, r, hm⟩ := R.at_ i d e
        exact ⟨v, e1, hrep d v _ (fun a ha => (R.ow i a ha).1) r, hm⟩
      · exact ⟨(R.ow i a ha).1, (k1 a).there (R.ow i a ha).2⟩
    · refine h dx M2 H2 ⟨fun a ha => ?_, s2.d⟩ x
      by_cases z : a = q
      · subst z
        obtain ⟨t1, t2⟩ := s2.k a (by rw [hq']; simp)
        refine ⟨.inr ⟨kvs, od, upd_same, ?_⟩, t2⟩
        rcases t1 with t | ⟨kv, od', t3, _⟩
        · exact t.trans hq'
        · rw [hq'] at t3; cases t3
      · have e1 : upd H' q (.dK kvs) a = H' a := upd_ne z
        obtain ⟨t1, t2⟩ := s2.k a (by rw [← e1]; exact ha)
        refine ⟨?_, t2⟩
        rcases t1 with t | ⟨kv, od', t3, t4⟩
        · exact .inl (t.trans e1.symm)
        · exact .inr ⟨kv, od', e1.trans t3, t4⟩
theorem sc_for (F : FS n G X) (hcm : X.calm = true) {tg iter : Expr} {body : List Stmt} {g : Tg} {it : Itr} {cs : List Cm} {pos : Pos} (htg : tgC X.N X.env.scope X.fn g tg = true) (hi : SI n G X true tg iter it) (ho : okE iter = true) (hb : SCs n G X np body cs) : SC n G X np (.For tg iter body [] pos) (.for_ g it cs) := by
  intro W tk P hP M s σ H L D R h
  unfold exec at h
  refine ⟨_, ps_unl (ps_for F.pass hcm wi_ wg wss (fun x => okE_fold ho _ x)), ?_⟩
  refine hi W tk M _ σ H _ R.view ((post_res R h).imp (fun ds ed hd J M1 H1 H1' s1 lk yl => ?_) fun _ _ q => q)
  have hd : PostS n P W M H D (forL (bindS np g) (fun s => execs G whileV np cs s) ds s) := hd
  generalize ho : forL (bindS np g) (fun s => execs G whileV np cs s) ds s = o at hd
  have R1 : RelL n.c P M1 s σ H1' L := by
    have R0 := R.step s1
    refine ⟨R0.len, lk.dom R0.dom, fun i d e => ?_, R0.nd, R0.dj, fun i a ha => ?_, R0.par⟩
    · obtain ⟨v, e1, r, hm⟩ := R0.at_ i d e
      refine ⟨v, e1, ?_, hm⟩
      rcases lk with z | ⟨q, od, kvs, h1, h2, h3, z, h4⟩
      · rw [z]; exact r
      · refine Rep.mono d r fun a ha _ _ => ⟨rfl, ?_, fun hm => ?_⟩
        · by_cases y : a = q
          · subst y; exact .inr ⟨kvs, .inl h1, .inr ⟨od, by rw [z, upd_same]⟩⟩
          · exact .inl (by rw [z, upd_ne y])
        · rw [z, upd_ne fun y => h3 rfl (by rw [← y]; exact (R0.ow i a hm).1)]
    · refine ⟨(R0.ow i a ha).1, ?_⟩
      exact lk.dom R0.dom a (by rw [(R0.ow i a ha).1]; simp)
  refine ⟨fun i m σ' H' => m = ds.length - i ∧ i ≤ ds.length ∧ ∃ Mc sc Lc, StS M1 H1' Mc H' ∧ RelL n.c P Mc sc σ' H' Lc ∧ forL (bindS np g) (fun s => execs G whileV np cs s) (ds.drop i) sc = o, ⟨ds.length, by simp, Nat.zero_le _, M1, s, L, StS.refl R1.dom, R1, by simpa using ho⟩, ?_⟩
  rintro i m σc Hc ⟨rfl, hile, Mc, sc, Lc, stc, Rc, hc⟩
  obtain ⟨y1, y2⟩ := yl.turn Mc Hc stc
  by_cases hlt : i < ds.length
  · have hdi : ds[i]? = some ds[i] := List.getElem?_eq_getElem hlt
    obtain ⟨go, yld⟩ := y2 i _ hdi
    refine .inr ⟨go, fun σ' H' => ∃ Mc sc Lc, StS M1 H1' Mc H' ∧ RelL n.c P Mc sc σ' H' Lc ∧ forL (bindS np g) (fun s => execs G whileV np cs s) (ds.drop (i + 1)) sc = o, fun σ' H' q => ⟨ds.length - (i + 1), by omega, rfl, hlt, q⟩, fun x H2 hy => ?_⟩
    obtain ⟨M2, s2, r2⟩ := yld x H2 hy
    rw [List.drop_eq_getElem_cons hlt] at hc
    unfold forL at hc
    cases hbd : bindS np g ds[i] sc with
    | none => rw [hbd] at hc; subst hc; exact False.elim hd
    | some s' =>
      rw [hbd] at hc
      dsimp only at hc
      have st2 : StS M1 H1' M2 H2 := stc.trans (s2.toS Rc.dom)
      refine bs_run ⟨F.toFX, hcm⟩ hP g tg htg sc σc Lc _ x [] s' _ (Rc.step s2) r2 .nil (fun _ z => nomatch z) hbd fun σ3 L3 R3 _ => ?_
      refine hb W tk P hP M2 s' σ3 H2 L3 _ R3 ?_
      cases hx : execs G whileV np cs s' with
      | stuck => rw [hx] at hc; subst hc; exact False.elim hd
      | nx sn =>
        rw [hx] at hc
        exact fun M' H' σ' L' st' R' => ⟨M', sn, L', st2.trans st', R', hc⟩
      | ct sn =>
        rw [hx] at hc
        exact fun M' H' σ' L' st' R' => ⟨M', sn, L', st2.trans st', R', hc⟩
      | bk sn =>
        rw [hx] at hc
        subst hc
        intro M' H' σ' L' st' R'
        obtain ⟨Hu, U⟩ := unl_of (n := n) (P := P) s1 R.dom lk (st2.trans st') L'
        exact U.ul _ (hd M' Hu σ' L' U.st (U.rel _ _ _ R'))
      | rt d sn =>
        rw [hx] at hc
        subst hc
        intro M' H' σ' L' v l hcl st' R' rv nd hdj
        obtain ⟨Hu, U⟩ := unl_of (n := n) (P := P) s1 R.dom lk (st2.trans st') L'
        exact U.ul _ (hd M' Hu σ' L' v l hcl U.st (U.rel _ _ _ R') (U.rep d v l (fun a ha => (Rep.owns d rv a ha).1) rv) nd hdj)
      | ex c xs sn =>
        rw [hx] at hc
        subst hc
        intro M' H' σ' L' st' R'
        obtain ⟨Hu, U⟩ := unl_of (n := n) (P := P) s1 R.dom lk (st2.trans st') L'
        exact U.px _ _ _ (hd M' Hu σ' L' U.st (U.rel _ _ _ R'))
  · have e : i = ds.length := by omega
    subst e
    rw [List.drop_length] at hc
    unfold forL at hc
    subst hc
    obtain ⟨Hu, U⟩ := unl_of (n := n) (P := P) s1 R.dom lk stc Lc
    exact .inl ⟨y1 _ (Nat.le_refl _), U.ul _ (hd Mc Hu σc Lc U.st (U.rel _ _ _ Rc))⟩

/-- whileV by steps -/
inductive WhN (step : Sl → Sl ⊕ Out) : Nat → Sl → Out → Prop
  | stop {s o} : step s = .inr o → WhN step 0 s o
  | more {k s s' o} : step s = .inl s' → WhN step k s' o → WhN step (k + 1) s o
theorem whN_of {step : Sl → Sl ⊕ Out} {s : Sl} {o : Out} (h : WhR step s o) : ∃ k, WhN step k s o := by
  induction h with
  | stop e => exact ⟨0, .stop e⟩
  | more e _ ih => obtain ⟨k, h⟩ := ih; exact ⟨k + 1, .more e h⟩
theorem sc_whl (F : FS n G X) {c : Expr} {body : List Stmt} {tc : Tm} {cs : List Cm} {pos : Pos} (hc : ST n G X c tc) (hb : SCs n G X np body cs) : SC n G X np (.While c body [] pos) (.whl tc cs) := by
  intro W tk P hP M s σ H L D R h
  unfold exec at h
  refine ⟨_, ps_while F.pass wt wss, ?_⟩
  generalize hst : (fun s => toStep s ((evalE G tc (viewS s)).bind vTru) fun s => execs G whileV np cs s) = step at h
  have hns : whileV step s ≠ .stuck := fun e => by rw [e] at h; exact h
  obtain ⟨k0, hk0⟩ := whN_of (whileV_rel hns)
  generalize whileV step s = o at h hk0
  refine ⟨fun m σ' H' => ∃ Mc sc Lc, StS M H Mc H' ∧ RelL n.c P Mc sc σ' H' Lc ∧ WhN step m sc o, ⟨k0, M, s, L, StS.refl R.dom, R, hk0⟩, ?_⟩
  rintro m σc Hc ⟨Mc, sc, Lc, stc, Rc, hk⟩
  refine hc W tk Mc _ σc Hc _ Rc.view ?_
  have key : ∀ {x}, step sc = x → x = toStep sc ((evalE G tc (viewS sc)).bind vTru) fun s => execs G whileV np cs s := fun {x} e => by rw [← e, ← hst]
  cases he : (evalE G tc (viewS sc)).bind vTru with
  | stuck =>
    cases hk with
    | stop e => have := key e; rw [he] at this; simp [toStep] at this; subst this; exact h
    | more e _ => have := key e; rw [he] at this; simp [toStep] at this
  | ex c ds =>
    cases hk with
    | stop e =>
      have := key e
      rw [he] at this
      simp [toStep] at this
      subst this
      exact h Mc Hc σc Lc stc Rc.pex
    | more e _ => have := key e; rw [he] at this; simp [toStep] at this
  | ok r =>
    intro M1 H1 s1
    have R1 := Rc.step s1
    have st1 := stc.trans (s1.toS Rc.dom)
    cases r with
    | false =>
      cases hk with
      | stop e =>
        have := key e
        rw [he] at this
        simp [toStep] at this
        subst this
        exact h M1 H1 σc Lc st1 R1
      | more e _ => have := key e; rw [he] at this; simp [toStep] at this
    | true =>
      rw [if_pos rfl]
      refine ⟨fun σ' H' => ∃ m', m' < m ∧ ∃ Mc sc Lc, StS M H Mc H' ∧ RelL n.c P Mc sc σ' H' Lc ∧ WhN step m' sc o, fun σ' H' q => q, ?_⟩
      refine hb W tk P hP M1 sc σc H1 Lc _ R1 ?_
      cases hx : execs G whileV np cs sc with
      | stuck =>
        cases hk with
        | stop e => have := key e; rw [he] at this; simp [toStep, hx] at this; subst this; exact h
        | more e _ => have := key e; rw [he] at this; simp [toStep, hx] at this
      | nx sn =>
        cases hk with
        | stop e => have := key e; rw [he] at this; simp [toStep, hx] at this
        | @more k s0 s' o0 e hk =>
          have := key e
          rw [he] at this
          simp [toStep, hx] at this
          subst this
          exact fun M' H' σ' L' st' R' => ⟨k, Nat.lt_succ_self _, M', _, L', st1.trans st', R', hk⟩
      | ct sn =>
        cases hk with
        | stop e => have := key e; rw [he] at this; simp [toStep, hx] at this
        | @more k s0 s' o0 e hk =>
          have := key e
          rw [he] at this
          simp [toStep, hx] at this
          subst this
          exact fun M' H' σ' L' st' R' => ⟨k, Nat.lt_succ_self _, M', _, L', st1.trans st', R', hk⟩
      | bk sn =>
        cases hk with
        | stop e => have := key e; rw [he] at this; simp [toStep, hx] at this; subst this; exact fun M' H' σ' L' st' R' => h M' H' σ' L' (st1.trans st') R'
        | more e _ => have := key e; rw [he] at this; simp [toStep, hx] at this
      | rt d sn =>
        cases hk with
        | stop e => have := key e; rw [he] at this; simp [toStep, hx] at this; subst this; exact fun M' H' σ' L' v l hcl st' R' => h M' H' σ' L' v l hcl (st1.trans st') R'
        | more e _ => have := key e; rw [he] at this; simp [toStep, hx] at this
      | ex c xs sn =>
        cases hk with
        | stop e => have := key e; rw [he] at this; simp [toStep, hx] at this; subst this; exact fun M' H' σ' L' st' R' => h M' H' σ' L' (st1.trans st') R'
        | more e _ => have := key e; rw [he] at this; simp [toStep, hx] at this
end
end GS

namespace GS
open PySem PySem.Spec PyProof.Rows L2

section
variable {n : Env'} {G : GE} {X : Cx} {W : WX} {M M0 M1 M' : MM} {H H0 H1 H' : Hp} {s : Sl} {σ : L2.St} {P : Nat → Option V} {L : Nat → List Addr} {np : Nat} {Dd : Ends}

/-! ## stores -/
/-- a slot's own thing changed in its place -/
theorem RelL.store {i : Nat} {d d' : D} {a : Addr} {u : HO} {l' : List Addr} (R : RelL n.c P M s σ H L) (hi : s[i]? = some (some d)) (hv : σ[i]? = some (some (.ref a))) (ha : a ∈ L i) (hr : Rep n.c M (upd H a u) d' (.ref a) l') (nd : l'.Nodup)
    (hs : ∀ b ∈ l', b ∈ L i ∨ ∀ j, b ∉ L j) (ho : d'.md = .own) : RelL n.c P M (s.set i (some d')) σ (upd H a u) (fun j => if j = i then l' else L j) := by
  have hlen : i < s.length := (List.getElem?_eq_some_iff.mp hi).1
  have hown := (R.ow i a ha).1
  refine ⟨by simp [R.len], fun b hb => ?_, fun j x e => ?_, fun j => ?_, fun j k b h1 h2 => ?_, fun j b h => ?_, fun j w e => ?_⟩
  · by_cases z : b = a
    · rw [z, upd_same]; simp
    · rw [upd_ne z]; exact R.dom b hb
  · by_cases hj : j = i
    · subst hj
      rw [List.getElem?_set_self hlen] at e
      cases e
      rw [if_pos rfl]
      exact ⟨_, hv, hr, by rw [ho]; simp⟩
    · rw [List.getElem?_set_ne (Ne.symm hj)] at e
      obtain ⟨v, e1, r, hm⟩ := R.at_ j x e
      rw [if_neg hj]
      exact ⟨v, e1, upd_keep r hm (fun z => hj (R.dj j i a z ha)) hown, hm⟩
  · split
    · exact nd
    · exact R.nd j
  · split at h1
    · next e1 =>
      split at h2
      · next e2 => rw [e1, e2]
      · next e2 =>
        rcases hs b h1 with z | z
        · exact absurd (R.dj i k b z h2) (fun q => e2 q.symm)
        · exact absurd h2 (z k)
    · next e1 =>
      split at h2
      · rcases hs b h2 with z | z
        · exact absurd (R.dj j i b h1 z) e1
        · exact absurd h1 (z j)
      · exact R.dj j k b h1 h2
  · split at h
    · exact Rep.owns d' hr b h
    · obtain ⟨h1, h2⟩ := R.ow j b h
      refine ⟨h1, ?_⟩
      by_cases z : b = a
      · rw [z, upd_same]; simp
      · rw [upd_ne z]; exact h2
  · obtain ⟨h1, x, h2, h3⟩ := R.par j w e
    by_cases hj : j = i
    · subst hj
      exact ⟨h1, d', List.getElem?_set_self hlen, ho⟩
    · exact ⟨h1, x, by rw [List.getElem?_set_ne (Ne.symm hj)]; exact h2, h3⟩
theorem stS_store {a : Addr} {u : HO} (d : Dom M H) (ho : M a = some .own) : StS M H M (upd H a u) := ⟨fun b hb hm => ⟨upd_ne fun z => hm (by rw [z]; exact ho), rfl⟩, fun b e => .inl e, fun b hb => by
  by_cases z : b = a
  · rw [z, upd_same]; simp
  · rw [upd_ne z]; exact d b hb⟩
/-- a fresh tree frozen -/
theorem RelL.frzF {K : List Addr} (R : RelL n.c P M s σ H L) (hK : ∀ a ∈ K, M a = some .own) (hd : ∀ a ∈ K, ∀ j, a ∉ L j) : RelL n.c P (frzM M K) s σ H L := ⟨R.len, R.dom.frz hK, fun i d e => let ⟨v, e1, r, hm⟩ := R.at_ i d e; ⟨v, e1, frz_other r hK fun a ha z => hd a z i ha, hm⟩, R.nd, R.dj, fun i a ha => ⟨(frzM_out fun z => hd a z i ha).trans (R.ow i a ha).1, (R.ow i a ha).2⟩, R.par⟩
/-- a value about to be stored: as it is, or frozen -/
theorem keep_it {o : Bool} {y : D} {v : V} {l : List Addr} (R : RelL n.c P M s σ H L) (r : Rep n.c M H y v l) (nd : l.Nodup) (hd : ∀ a ∈ l, ∀ j, a ∉ L j) (hc : y.cl = true) :
    ∃ M2 l2, StS M H M2 H ∧ RelL n.c P M2 s σ H L ∧ Rep n.c M2 H (kept o y) v l2 ∧ l2.Nodup ∧ (∀ a ∈ l2, ∀ j, a ∉ L j) ∧ chOk .own (kept o y).md = true := by
  have hok : ∀ {d : D}, d.cl = true → chOk .own d.md = true := fun {d} h => by rcases cl_md h with e | e <;> rw [e] <;> rfl
  cases o with
  | true => exact ⟨M, l, StS.refl R.dom, R, r, nd, hd, hok hc⟩
  | false =>
    have ow : ∀ a ∈ l, M a = some .own := fun a ha => (Rep.owns y r a ha).1
    refine ⟨frzM M l, [], stS_frz R.dom ow, R.frzF ow hd, Rep.freeze l y r (fun _ z => z) ow hc, .nil, (fun _ z => nomatch z), ?_⟩
    show chOk .own (y.own2 .fz).md = true
    rw [own2_md]
    rcases cl_md hc with e | e <;> rw [e] <;> rfl
theorem upd_at_nil {g : D → Option D} {i : Nat} (h : PostS n P W M H Dd (atSlot i [] g s)) : ∃ d d', s[i]? = some (some d) ∧ g d = some d' ∧ PostS n P W M H Dd (.nx (s.set i (some d'))) := by
  unfold atSlot at h
  split at h
  · next d e =>
    split at h
    · next d' e' => exact ⟨d, d', e, by unfold updAt at e'; exact e', h⟩
    · exact False.elim h
  · exact False.elim h
theorem consO_own {a : Addr} {l : List Addr} : consO .own a l = a :: l := rfl
/-- an own list at a slot -/
theorem lst_at {i : Nat} {ds : List D} (R : RelL n.c P M s σ H L) (hi : s[i]? = some (some (.lst .own ds))) : ∃ a vs l, σ[i]? = some (some (.ref a)) ∧ H a = some (.lst vs) ∧ M a = some .own ∧ Reps n.c M H .own ds vs l ∧ L i = a :: l ∧ a ∉ l ∧ l.Nodup := by
  obtain ⟨v, e1, r, _⟩ := R.at_ i _ hi
  obtain ⟨a, vs, l, rfl, nx, rr, el⟩ := r
  have el : L i = a :: l := el
  have nd := R.nd i
  rw [el] at nd
  rcases nx with nx | nx
  · exact ⟨a, vs, l, e1, nx.2, nx.1, rr, el, (List.nodup_cons.mp nd).1, (List.nodup_cons.mp nd).2⟩
  · cases nx.1
theorem dic_at {i : Nat} {ks : List Key} {ds : List D} (R : RelL n.c P M s σ H L) (hi : s[i]? = some (some (.dic .own ks ds))) : ∃ a kvs l, σ[i]? = some (some (.ref a)) ∧ H a = some (.dK kvs) ∧ M a = some .own ∧ kvs.map (·.1) = ks ∧ Reps n.c M H .own ds (kvs.map (·.2)) l ∧ L i = a :: l ∧ a ∉ l ∧ l.Nodup := by
  obtain ⟨v, e1, r, _⟩ := R.at_ i _ hi
  obtain ⟨a, kvs, l, rfl, nx, ek, rr, el⟩ := r
  have el : L i = a :: l := el
  have nd := R.nd i
  rw [el] at nd
  exact ⟨a, kvs, l, e1, nx.2.2 rfl, nx.1, ek, rr, el, (List.nodup_cons.mp nd).1, (List.nodup_cons.mp nd).2⟩
theorem ins_at {i : Nat} {c : Nat} {fs : List Nat} {ds : List D} (R : RelL n.c P M s σ H L) (hi : s[i]? = some (some (.ins .own c fs ds))) : ∃ a dx fvs l, σ[i]? = some (some (.ref a)) ∧ H a = some (.ins (n.c.ca c) dx fvs) ∧ M a = some .own ∧ fvs.map (·.1) = fs.map n.c.an ∧ Reps n.c M H .own ds (fvs.map (·.2)) l ∧ L i = a :: l ∧ a ∉ l ∧ l.Nodup ∧ n.c.xc c = false := by
  obtain ⟨v, e1, r, _⟩ := R.at_ i _ hi
  obtain ⟨a, dx, fvs, l, rfl, nx, ek, rr, el⟩ := r
  obtain ⟨h0, nx⟩ := nx.plain (.inl (by simp))
  have el : L i = a :: l := el
  have nd := R.nd i
  rw [el] at nd
  exact ⟨a, dx, fvs, l, e1, nx.2, nx.1, ek, rr, el, (List.nodup_cons.mp nd).1, (List.nodup_cons.mp nd).2, h0⟩
theorem Reps.one {p : Md} {d : D} {v : V} {l : List Addr} (r : Rep n.c M H d v l) (h : chOk p d.md = true) : Reps n.c M H p [d] [v] l := ⟨v, [], l, [], rfl, h, r, ⟨rfl, rfl⟩, by simp⟩

theorem hasLst {i : Nat} (h : hasAt i [] isLstO s = true) : ∃ ds, s[i]? = some (some (.lst .own ds)) := by
  unfold hasAt at h
  split at h
  · next d e =>
    unfold updAt at h
    split at h
    · next hk =>
      unfold isLstO at hk
      split at hk
      · exact ⟨_, e⟩
      · cases hk
    · cases h
  · cases h

/-! ### x.append(y), x.extend(y), x.clear() -/
theorem sc_app (F : FS n G X) {o : Bool} {i : Nat} {x : Str} {e : Expr} {t : Tm} {p apos cpos pos : Pos} (hN : X.N[i]? = some x) (hv : Vis X.env.scope x) (hdb : (x == ("__debug__" : Str)) = false) (hcd : (x == ("__classdict__" : Str)) = false) (he : SE n G X e t) (oe : okE e = true) (hline : (apos.endLine == cpos.line) = true) :
    SC n G X np (.Expr (.Call (.Attribute (.Name x p) "append" apos) [e] [] cpos) pos) (.app o i [] t) := by
  intro W tk P hP M s σ H L De R h
  unfold exec evalSt at h
  simp only [Out.ofRes_ok] at h
  refine ⟨_, ps_expr (pe_bm PySem.F.plainAttrs_list PySem.F.slot_list_append PySem.F.type_list_append mt_append (pe_var hN hv hdb hcd) (pa_cons we pa_nil (okE_star oe _ _)) rfl (by rw [okE_star oe]; rfl) hline (okE_star oe _ _) rfl) rfl, ?_⟩
  split at h
  · next hl =>
    obtain ⟨ds, hs⟩ := hasLst hl
    obtain ⟨a, vs, l, e1, ha, hm, rr, el, hna, nd⟩ := lst_at R hs
    refine ⟨.ref a, e1, .inl ⟨rfl, vs, .inl (.inl ha)⟩, ?_⟩
    refine he W tk M _ σ H _ R.view ((post_res R h).imp (fun y ey hy v M1 H1 l1 s1 r f nd1 => ?_) fun _ _ q => q)
    split at hy
    · next hc =>
      obtain ⟨d, d', hs', hg, hy⟩ := upd_at_nil hy
      rw [hs] at hs'
      cases hs'
      unfold gApp at hg
      dsimp only at hg
      split at hg
      · next hlen =>
        cases hg
        have R1 := R.step s1
        obtain ⟨M2, l2, st2, R2, r2, nd2, fr2, ck⟩ := keep_it (o := o) R1 r nd1 (fresh_L R f) hc
        obtain ⟨a', vs', l', e1', ha', hm', rr', el', hna', nd'⟩ := lst_at R2 hs
        rw [e1] at e1'
        cases e1'
        rw [el] at el'
        cases el'
        have hv : vs = vs' := by
          have := (s1.k a (by rw [ha]; simp)).1
          rw [ha, ha'] at this
          cases this; rfl
        subst hv
        have hl2 : ∀ b ∈ l, b ∉ l2 := fun b hb z => fr2 b z i (by rw [el]; simp [hb])
        have ha2 : a ∉ l2 := fun z => fr2 a z i (by rw [el]; simp)
        have rr2 : Reps n.c M2 (upd H1 a (.lst (vs ++ [v]))) .own (ds ++ [kept o y]) (vs ++ [v]) (l ++ l2) := upd_keeps (rr'.append (Reps.one r2 ck)) (by simp) (fun z => (List.mem_append.mp z).elim hna ha2) hm'
        refine ⟨a, vs, v, rfl, rfl, ha', by rw [rr.len]; exact hlen, ?_⟩
        refine hy M2 _ σ _ ((s1.toS R.dom).trans (st2.trans (stS_store R2.dom hm'))) (R2.store hs e1 (by rw [el]; simp) (l' := a :: (l ++ l2)) ⟨a, _, l ++ l2, rfl, .inl ⟨hm', upd_same⟩, rr2, rfl⟩ (List.nodup_cons.mpr ⟨fun z => (List.mem_append.mp z).elim hna ha2, List.nodup_append.mpr ⟨nd, nd2, fun b hb c hc e => hl2 b hb (by rw [e]; exact hc)⟩⟩) (fun b hb => ?_) rfl)
        rcases List.mem_cons.mp hb with z | z
        · exact .inl (by rw [el, z]; simp)
        · rcases List.mem_append.mp z with z | z
          · exact .inl (by rw [el]; simp [z])
          · exact .inr (fr2 b z)
      · cases hg
    · exact False.elim hy
  · exact False.elim h
theorem sc_ext (F : FS n G X) {i : Nat} {x : Str} {e : Expr} {t : Tm} {p apos cpos pos : Pos} (hN : X.N[i]? = some x) (hv : Vis X.env.scope x) (hdb : (x == ("__debug__" : Str)) = false) (hcd : (x == ("__classdict__" : Str)) = false) (he : SE n G X e t) (oe : okE e = true) (hline : (apos.endLine == cpos.line) = true) :
    SC n G X np (.Expr (.Call (.Attribute (.Name x p) "extend" apos) [e] [] cpos) pos) (.ext i [] t) := by
  intro W tk P hP M s σ H L De R h
  unfold exec evalSt at h
  simp only [Out.ofRes_ok] at h
  refine ⟨_, ps_expr (pe_bm PySem.F.plainAttrs_list PySem.F.slot_list_extend PySem.F.type_list_extend mt_extend (pe_var hN hv hdb hcd) (pa_cons we pa_nil (okE_star oe _ _)) rfl (by rw [okE_star oe]; rfl) hline (okE_star oe _ _) rfl) rfl, ?_⟩
  split at h
  · next hl =>
    obtain ⟨ds, hs⟩ := hasLst hl
    obtain ⟨a, vs, l, e1, ha, hm, rr, el, hna, nd⟩ := lst_at R hs
    refine ⟨.ref a, e1, .inl ⟨rfl, vs, .inl (.inl ha)⟩, ?_⟩
    refine he W tk M _ σ H _ R.view ((post_res R h).imp (fun y ey hy v M1 H1 l1 s1 r f nd1 => ?_) fun _ _ q => q)
    split at hy
    · next m es =>
      split at hy
      · next hc =>
        simp only [Bool.and_eq_true, Bool.not_eq_true', decide_eq_false_iff_not] at hc
        obtain ⟨d, d', hs', hg, hy⟩ := upd_at_nil hy
        rw [hs] at hs'
        cases hs'
        unfold gExt at hg
        dsimp only at hg
        split at hg
        · next hlen =>
          cases hg
          have R1 := R.step s1
          obtain ⟨b, us, lb, rfl, nx, rb, elb⟩ := r
          have own : ∀ q ∈ lb, M1 q = some .own := fun q hq => (Reps.owns es rb q hq).1
          have hsub : ∀ q ∈ lb, q ∈ l1 := fun q hq => by rw [elb]; exact mem_consO.mpr (.inr hq)
          have R2 := R1.frzF own fun q hq => fresh_L R f q (hsub q hq)
          have rb2 := Reps.frz (L := lb) rb hc.1.1 (fun _ z => z) own
          obtain ⟨a', vs', l', e1', ha', hm', rr', el', hna', nd'⟩ := lst_at R2 hs
          rw [e1] at e1'
          cases e1'
          rw [el] at el'
          cases el'
          have hv : vs = vs' := by
            have := (s1.k a (by rw [ha]; simp)).1
            rw [ha, ha'] at this
            cases this; rfl
          subst hv
          have hb : H1 b = some (.lst us) := by
            rcases nx with nx | nx
            · exact nx.2
            · exact absurd nx.1 hc.2
          have rr2 : Reps n.c (frzM M1 lb) (upd H1 a (.lst (vs ++ us))) .own (ds ++ D.own2s .fz es) (vs ++ us) (l ++ []) := upd_keeps (rr'.append rb2.under) (by simp) (fun z => hna (by simpa using z)) hm'
          rw [List.append_nil] at rr2
          rw [own2s_len] at hlen
          refine ⟨a, b, vs, us, rfl, rfl, ha', hb, by rw [rr.len, rb.len]; exact hlen, ?_⟩
          exact hy _ _ σ _ ((s1.toS R.dom).trans ((stS_frz s1.d own).trans (stS_store R2.dom hm'))) (R2.store hs e1 (by rw [el]; simp) (l' := a :: l) ⟨a, _, l, rfl, .inl ⟨hm', upd_same⟩, rr2, rfl⟩ (List.nodup_cons.mpr ⟨hna, nd⟩) (fun c hc => .inl (by rw [el]; exact hc)) rfl)
        · cases hg
      · exact False.elim hy
    · exact False.elim hy
  · exact False.elim h
theorem sc_clr (F : FS n G X) {i : Nat} {x : Str} {p apos cpos pos : Pos} (hN : X.N[i]? = some x) (hv : Vis X.env.scope x) (hdb : (x == ("__debug__" : Str)) = false) (hcd : (x == ("__classdict__" : Str)) = false) (hline : (apos.endLine == cpos.line) = true) :
    SC n G X np (.Expr (.Call (.Attribute (.Name x p) "clear" apos) [] [] cpos) pos) (.clr i []) := by
  intro W tk P hP M s σ H L De R h
  unfold exec evalSt at h
  simp only [Out.ofRes_ok] at h
  obtain ⟨d, d', hs, hg, h⟩ := upd_at_nil h
  unfold gClr at hg
  split at hg
  · next ds =>
    cases hg
    obtain ⟨a, vs, l, e1, ha, hm, rr, el, hna, nd⟩ := lst_at R hs
    refine ⟨_, ps_expr (pe_bm0 PySem.F.plainAttrs_list PySem.F.slot_list_clear PySem.F.type_list_clear mt_clear (pe_var hN hv hdb hcd) rfl hline) rfl, .ref a, e1, .inl ⟨rfl, vs, .inl (.inl ha)⟩, a, vs, rfl, rfl, ha, ?_⟩
    exact h M _ σ _ (stS_store R.dom hm) (R.store hs e1 (by rw [el]; simp) (l' := [a]) ⟨a, [], [], rfl, .inl ⟨hm, upd_same⟩, ⟨rfl, rfl⟩, rfl⟩ (by simp) (fun b hb => .inl (by rw [el]; simp at hb; simp [hb])) rfl)
  · next ks ds =>
    cases hg
    obtain ⟨a, kvs, l, e1, ha, hm, ek, rr, el, hna, nd⟩ := dic_at R hs
    refine ⟨_, ps_expr (pe_bm0 PySem.F.plainAttrs_dict PySem.F.slot_dict_clear PySem.F.type_dict_clear mtd_clear (pe_var hN hv hdb hcd) rfl hline) rfl, .ref a, e1, .inr (.inr (.inl ⟨rfl, .inl ⟨kvs, ha⟩⟩)), ?_⟩
    have fin := h M _ σ _ (stS_store (u := .dK []) R.dom hm) (R.store hs e1 (by rw [el]; simp) (l' := [a]) ⟨a, [], [], rfl, ⟨hm, .inl upd_same, fun _ => upd_same⟩, rfl, ⟨rfl, rfl⟩, rfl⟩ (by simp) (fun b hb => .inl (by rw [el]; simp at hb; simp [hb])) rfl)
    exact ⟨a, kvs, rfl, rfl, ha, fin⟩
  · cases hg
end
end GS

namespace GS
open PySem PySem.Spec PyProof.Rows L2

section
variable {n : Env'} {G : GE} {X : Cx} {W : WX} {M M0 M1 M' : MM} {H H0 H1 H' : Hp} {s : Sl} {σ : L2.St} {P : Nat → Option V} {L : Nat → List Addr} {np : Nat} {Dd : Ends}

/-! ## parts replaced -/
/-- own lists where one part is replaced -/
def Swp (l ly l' : List Addr) : Prop := ∃ pre lk post, l = pre ++ lk ++ post ∧ l' = pre ++ ly ++ post
theorem Swp.nd {l ly l' : List Addr} (h : Swp l ly l') (n1 : l.Nodup) (n2 : ly.Nodup) (hd : ∀ a ∈ ly, a ∉ l) : l'.Nodup := by
  obtain ⟨pre, lk, post, rfl, rfl⟩ := h
  obtain ⟨x1, x2, x3⟩ := List.nodup_append.mp n1
  obtain ⟨y1, y2, y3⟩ := List.nodup_append.mp x1
  refine List.nodup_append.mpr ⟨List.nodup_append.mpr ⟨y1, n2, fun a ha b hb e => hd b hb (by rw [← e]; simp [ha])⟩, x2, fun a ha b hb e => ?_⟩
  rcases List.mem_append.mp ha with z | z
  · exact x3 a (by simp [z]) b hb e
  · exact hd a z (by rw [e]; simp [hb])
theorem Swp.mem {l ly l' : List Addr} (h : Swp l ly l') {a : Addr} (ha : a ∈ l') : a ∈ l ∨ a ∈ ly := by
  obtain ⟨pre, lk, post, rfl, rfl⟩ := h
  simp only [List.mem_append] at ha ⊢
  rcases ha with (z | z) | z
  · exact .inl (.inl (.inl z))
  · exact .inr z
  · exact .inl (.inr z)
theorem Swp.cons {l ly l' l1 : List Addr} (h : Swp l ly l') : Swp (l1 ++ l) ly (l1 ++ l') := by
  obtain ⟨pre, lk, post, rfl, rfl⟩ := h
  exact ⟨l1 ++ pre, lk, post, by simp, by simp⟩
theorem reps_set {p : Md} {y : D} {v : V} {ly : List Addr} (ry : Rep n.c M H y v ly) (ck : chOk p y.md = true) : ∀ {ds : List D} {vs : List V} {l : List Addr} {j : Nat}, Reps n.c M H p ds vs l → j < ds.length → ∃ l', Reps n.c M H p (ds.set j y) (vs.set j v) l' ∧ Swp l ly l'
  | [], _, _, _, _, h => absurd h (Nat.not_lt_zero _)
  | d :: ds, vs, l, 0, r, _ => by
    obtain ⟨w, vs', l1, l2, rfl, c1, r1, r2, rfl⟩ := r
    exact ⟨ly ++ l2, ⟨v, vs', ly, l2, rfl, ck, ry, r2, rfl⟩, [], l1, l2, rfl, rfl⟩
  | d :: ds, vs, l, j + 1, r, h => by
    obtain ⟨w, vs', l1, l2, rfl, c1, r1, r2, rfl⟩ := r
    obtain ⟨l', h1, h2⟩ := reps_set ry ck r2 (by simpa using h)
    exact ⟨l1 ++ l', ⟨w, vs'.set j v, l1, l', rfl, c1, r1, h1, rfl⟩, h2.cons⟩
theorem reps_key {p : Md} {y : D} {v : V} {ly : List Addr} (ry : Rep n.c M H y v ly) (ck : chOk p y.md = true) {k : Key} : ∀ {ks : List Key} {ds : List D} {kvs : List (Key × V)} {l : List Addr}, kvs.map (·.1) = ks → ks.Nodup → Reps n.c M H p ds (kvs.map (·.2)) l → (ks.any fun q => decide (q = k)) = true →
    ∃ l', Reps n.c M H p (setKey k y ks ds) ((kvs.map fun kv => if kv.1 = k then (kv.1, v) else kv).map (·.2)) l' ∧ Swp l ly l'
  | [], _, _, _, _, _, _, h => by cases h
  | q :: ks, ds, [], l, e, _, _, _ => by simp at e
  | q :: ks, [], kv :: kvs, l, e, nd, r, h => by
    have := r.1
    simp at this
  | q :: ks, d :: ds, kv :: kvs, l, e, nd, r, h => by
    simp only [List.map_cons, List.cons.injEq] at e
    obtain ⟨w, vs', l1, l2, ev, c1, r1, r2, rfl⟩ := r
    simp only [List.map_cons, List.cons.injEq] at ev
    obtain ⟨rfl, rfl⟩ := ev
    obtain ⟨n1, n2⟩ := List.nodup_cons.mp nd
    unfold setKey
    by_cases hq : q = k
    · rw [if_pos hq]
      have rest : ∀ {ks : List Key} {kvs : List (Key × V)}, kvs.map (·.1) = ks → k ∉ ks → (kvs.map fun kv => if kv.1 = k then (kv.1, v) else kv) = kvs := fun {ks kvs} e hk => by
        induction kvs generalizing ks with
        | nil => rfl
        | cons a as ih =>
          subst e
          simp only [List.map_cons, List.mem_cons, not_or] at hk ⊢
          rw [if_neg fun z => hk.1 z.symm, ih rfl hk.2]
      refine ⟨ly ++ l2, ⟨v, kvs.map (·.2), ly, l2, ?_, ck, ry, r2, rfl⟩, [], l1, l2, rfl, rfl⟩
      rw [List.map_cons, List.map_cons, if_pos (by rw [e.1]; exact hq), rest e.2 (by rw [← hq]; exact n1)]
    · rw [if_neg hq]
      rw [List.any_cons, Bool.or_eq_true] at h
      have h := h.resolve_left (by simp [hq])
      obtain ⟨l', h1, h2⟩ := reps_key ry ck e.2 n2 r2 h
      refine ⟨l1 ++ l', ⟨kv.2, _, l1, l', ?_, c1, r1, h1, rfl⟩, h2.cons⟩
      rw [List.map_cons, List.map_cons, if_neg (by rw [e.1]; exact hq)]
theorem reps_fld {p : Md} {an : Nat → Str} (inj : ∀ f g, an f = an g → f = g) {y : D} {v : V} {ly : List Addr} (ry : Rep n.c M H y v ly) (ck : chOk p y.md = true) {f : Nat} : ∀ {fs : List Nat} {ds : List D} {fvs : List (Str × V)} {l : List Addr}, fvs.map (·.1) = fs.map an → Reps n.c M H p ds (fvs.map (·.2)) l → (fs.any fun q => decide (q = f)) = true →
    ∃ l', Reps n.c M H p (setFld f y fs ds) ((putF (an f) v fvs).map (·.2)) l' ∧ (putF (an f) v fvs).map (·.1) = fs.map an ∧ Swp l ly l'
  | [], _, _, _, _, _, h => by cases h
  | q :: fs, ds, [], l, e, _, _ => by simp at e
  | q :: fs, [], kv :: kvs, l, e, r, h => by
    have := r.1
    simp at this
  | q :: fs, d :: ds, (g, x) :: fvs, l, e, r, h => by
    simp only [List.map_cons, List.cons.injEq] at e
    obtain ⟨w, vs', l1, l2, ev, c1, r1, r2, rfl⟩ := r
    simp only [List.map_cons, List.cons.injEq] at ev
    obtain ⟨rfl, rfl⟩ := ev
    unfold setFld putF
    by_cases hq : q = f
    · subst hq
      rw [if_pos rfl, if_pos e.1]
      exact ⟨ly ++ l2, ⟨v, fvs.map (·.2), ly, l2, rfl, ck, ry, r2, rfl⟩, by simp [e.1, e.2], [], l1, l2, rfl, rfl⟩
    · rw [if_neg hq, if_neg fun z => hq (inj _ _ (e.1.symm.trans z))]
      rw [List.any_cons, Bool.or_eq_true] at h
      have h := h.resolve_left (by simp [hq])
      obtain ⟨l', h1, h2, h3⟩ := reps_fld inj ry ck e.2 r2 h
      exact ⟨l1 ++ l', ⟨x, _, l1, l', rfl, c1, r1, h1, rfl⟩, by simp [e.1, h2], h3.cons⟩
theorem putF_new {an : Nat → Str} (inj : ∀ f g, an f = an g → f = g) {v : V} {f : Nat} : ∀ {fs : List Nat} {fvs : List (Str × V)}, fvs.map (·.1) = fs.map an → (fs.any fun q => decide (q = f)) = false → putF (an f) v fvs = fvs ++ [(an f, v)]
  | [], fvs, e, _ => by
    have : fvs = [] := by simpa using e
    rw [this]; rfl
  | q :: fs, [], e, _ => by simp at e
  | q :: fs, (g, x) :: fvs, e, h => by
    simp only [List.map_cons, List.cons.injEq] at e
    rw [List.any_cons, Bool.or_eq_false_iff] at h
    unfold putF
    rw [if_neg fun z => of_decide_eq_false h.1 (inj _ _ (e.1.symm.trans z)), putF_new inj e.2 h.2]
    rfl

/-! ### x[i] = y -/
/-- dicts' keys differ -/
theorem ps_nd {st : Stmt} {t : TS} (h : PS X st t) : PS X st (fun D σ H => (∀ a kvs, H a = some (.dK kvs) → (kvs.map (·.1)).Nodup) → t D σ H) := by
  refine ⟨fun pins s σ H D I hw => h.run pins s σ H D I (hw fun a kvs e => ?_)⟩
  obtain ⟨_, _, vs, kv, hd⟩ := dk_of I.hok e
  obtain ⟨o, es, ep, _, _, _, _, _, nd⟩ := hd
  rw [KV.keys kv]
  exact nd
theorem assign_sub {o i : Expr} {pos : Pos} {env : Env} (h : okE i = true) (v : Value) : assign (.Subscript o i pos) env v = (do
      let ov ← holding [v] (eval o env)
      let iv ← holding [v, ov] (eval i env)
      standAt pos
      holding [v, ov, iv] (setItem ov iv v)
      release [v, ov, iv] []) := by
  cases i <;> first | (cases h; done) | rfl
theorem ixN_lt {k : Nat} {i : Int} {j : Nat} (h : ixN k i = some j) : j < k := by
  unfold ixN at h
  split at h <;> first | (split at h <;> first | (cases h; omega) | cases h) | (cases h; omega) | cases h
theorem sc_put (F : FS n G X) {o : Bool} {i : Nat} {x : Str} {ie e : Expr} {ti t : Tm} {p spos pos : Pos} (hN : X.N[i]? = some x) (hv : Vis X.env.scope x) (hdb : (x == ("__debug__" : Str)) = false) (hcd : (x == ("__classdict__" : Str)) = false) (hi : SE n G X ie ti) (he : SE n G X e t) (oi : okE ie = true)
    (hs : swapsWith e (some (.Subscript (.Name x p) ie spos)) pos.line X.env = pure false) (hw : swappedStores [.Subscript (.Name x p) ie spos] e X.env = pure none) :
    SC n G X np (.Assign [.Subscript (.Name x p) ie spos] e pos) (.put o i [] ti t) := by
  intro W tk P hP M s σ H L De R h
  unfold exec evalSt at h
  simp only [Out.ofRes_ok] at h
  by_cases hd : ∃ ks ds, s[i]? = some (some (.dic .own ks ds))
  · obtain ⟨ks, ds, hd⟩ := hd
    obtain ⟨a, kvs, l, e1, ha, hm, ek, rr, el, hna, nd⟩ := dic_at R hd
    refine ⟨_, ps_nd (ps_dput F.hu1 (pe_var hN hv hdb hcd) we we hs), fun hnd => ?_⟩
    have hnd := hnd a kvs ha
    rw [ek] at hnd
    refine he W tk M _ σ H _ R.view ((post_res R h).imp (fun y ey hy v M1 H1 l1 s1 r f nd1 => ?_) fun _ _ q => q)
    refine ⟨.ref a, e1, ?_⟩
    have R1 := R.step s1
    split at hy
    rotate_left
    · exact False.elim hy
    refine hi W tk M1 _ σ H1 _ R1.view ((post_res R1 (PostS.mono hy (s1.toS R.dom))).imp (fun k ekk hk u M2 H2 l2 s2 r2 f2 n2 => ?_) fun _ _ q => q)
    split at hk
    · next hc =>
      obtain ⟨d, d', hs', hg, hk⟩ := upd_at_nil hk
      rw [hd] at hs'
      cases hs'
      have R2 := R1.step s2
      have r' := r.step s1.d s2
      obtain ⟨M3, l3, st3, R3, r3, nd3, fr3, ck⟩ := keep_it (o := o) R2 r' nd1 (fresh_L R f) hc
      obtain ⟨a', kvs', l', e1', ha', hm', ek', rr', el', hna', nd'⟩ := dic_at R3 hd
      rw [e1] at e1'
      cases e1'
      rw [el] at el'
      cases el'
      have hv : kvs = kvs' := by
        have h1 := (s1.k a (by rw [ha]; simp)).1
        have h2 := (s2.k a (by rw [h1, ha]; simp)).1
        rw [h2, h1, ha] at ha'
        cases ha'; rfl
      subst hv
      unfold gPut at hg
      dsimp only at hg
      obtain ⟨q, hq, hg⟩ := Option.bind_eq_some_iff.mp hg
      have hu := rep_key r2 hq
      have stx : StS M1 H1 M3 H2 := (s2.toS s1.d).trans st3
      have fin : ∀ (d' : D) (kvs2 : List (Key × V)) (l4 : List Addr), Rep n.c M3 (upd H2 a (.dK kvs2)) d' (.ref a) (a :: l4) → l4.Nodup → a ∉ l4 → (∀ b ∈ l4, b ∈ l ∨ b ∈ l3) → d'.md = .own → PostS n P W M1 H1 De (.nx (s.set i (some d'))) → De.nx σ (upd H2 a (.dK kvs2)) := fun d' kvs2 l4 hr hn hna4 hsub ho hk => by
        refine hk M3 _ σ _ (stx.trans (stS_store R3.dom hm')) (R3.store hd e1 (by rw [el]; simp) hr (List.nodup_cons.mpr ⟨hna4, hn⟩) (fun b hb => ?_) ho)
        rcases List.mem_cons.mp hb with z | z
        · exact .inl (by rw [el, z]; simp)
        · rcases hsub b z with z | z
          · exact .inl (by rw [el]; simp [z])
          · exact .inr (fr3 b z)
      have hdl : ∀ b ∈ l3, b ∉ l := fun b hb z => fr3 b hb i (by rw [el]; simp [z])
      have ha3 : a ∉ l3 := fun z => fr3 a z i (by rw [el]; simp)
      have hany : (kvs.any fun kv => decide (kv.1 = q)) = ks.any fun p => decide (p = q) := by rw [← ek, List.any_map]; rfl
      have hlen : kvs.length = ks.length := by rw [← ek]; simp
      have hz : kvs.length ≤ sizeLine → kvs.length < sizeLine → DPut H2 a u v (upd H2 a (.dK (putK kvs q v))) := fun _ hl => .inl ⟨kvs, q, ha', hu, hl, rfl⟩
      split at hg
      · next hL =>
        split at hg
        · next hA =>
          cases hg
          obtain ⟨l4, h1, h2⟩ := reps_key r3 ck ek hnd rr' hA
          have hput : putK kvs q v = kvs.map fun kv => if kv.1 = q then (kv.1, v) else kv := by unfold putK; rw [if_pos (by rw [hany]; exact hA)]
          refine ⟨a, _, rfl, hz (by omega) (by omega), ?_⟩
          refine fin (.dic .own ks (setKey q (kept o y) ks ds)) _ l4 ⟨a, _, l4, rfl, ⟨hm', .inl upd_same, fun _ => upd_same⟩, ?_, ?_, rfl⟩ (h2.nd nd nd3 hdl) (fun z => (h2.mem z).elim hna ha3) (fun b hb => h2.mem hb) rfl hk
          · rw [hput, ← ek, List.map_map]
            apply List.map_congr_left
            intro kv _
            show (if kv.1 = q then (kv.1, v) else kv).1 = kv.1
            split <;> rfl
          · rw [hput]
            exact upd_keeps h1 (by simp) (fun z => (h2.mem z).elim hna ha3) hm'
        · next hA =>
          cases hg
          have hput : putK kvs q v = kvs ++ [(q, v)] := by unfold putK; rw [if_neg (by rw [hany]; exact hA)]
          refine ⟨a, _, rfl, hz (by omega) (by omega), ?_⟩
          refine fin (.dic .own (ks ++ [q]) (ds ++ [kept o y])) _ (l ++ l3) ⟨a, _, l ++ l3, rfl, ⟨hm', .inl upd_same, fun _ => upd_same⟩, ?_, ?_, rfl⟩ (List.nodup_append.mpr ⟨nd, nd3, fun b hb c hc e => hdl c hc (by rw [← e]; exact hb)⟩) (fun z => (List.mem_append.mp z).elim hna ha3) (fun b hb => List.mem_append.mp hb) rfl hk
          · rw [hput, ← ek]; simp
          · rw [hput, List.map_append]
            exact upd_keeps (rr'.append (Reps.one r3 ck)) (by simp) (fun z => (List.mem_append.mp z).elim hna ha3) hm'
      · cases hg
    · exact False.elim hk
  · refine ⟨_, ps_asg we (pg_sub (pe_var hN hv hdb hcd) we set_list (assign_sub oi)) hs hw rfl, ?_⟩
    refine he W tk M _ σ H _ R.view ((post_res R h).imp (fun y ey hy v M1 H1 l1 s1 r f nd1 => ?_) fun _ _ q => q)
    have R1 := R.step s1
    split at hy
    rotate_left
    · exact False.elim hy
    next hh =>
    obtain ⟨d0, hs0⟩ : ∃ d0, s[i]? = some (some d0) := by
      unfold hasAt at hh
      split at hh
      · next d e => exact ⟨d, e⟩
      · cases hh
    obtain ⟨v0, e0, r0, _⟩ := R.at_ i d0 hs0
    refine ⟨v0, e0, ?_⟩
    refine hi W tk M1 _ σ H1 _ R1.view ((post_res R1 (PostS.mono hy (s1.toS R.dom))).imp (fun k ekk hk u M2 H2 l2 s2 r2 f2 n2 => ?_) fun _ _ q => q)
    split at hk
    · next hc =>
      obtain ⟨d, d', hs', hg, hk⟩ := upd_at_nil hk
      cases d with
      | lst m ds =>
        cases m with
        | own =>
          obtain ⟨a, vs, l, e1, ha, hm, rr, el, hna, nd⟩ := lst_at R hs'
          rw [e0] at e1
          cases e1
          have R2 := R1.step s2
          have r' := r.step s1.d s2
          obtain ⟨M3, l3, st3, R3, r3, nd3, fr3, ck⟩ := keep_it (o := o) R2 r' nd1 (fresh_L R f) hc
          obtain ⟨a', vs', l', e1', ha', hm', rr', el', hna', nd'⟩ := lst_at R3 hs'
          rw [e0] at e1'
          cases e1'
          rw [el] at el'
          cases el'
          have hdl : ∀ b ∈ l3, b ∉ l := fun b hb z => fr3 b hb i (by rw [el]; simp [z])
          have ha3 : a ∉ l3 := fun z => fr3 a z i (by rw [el]; simp)
          unfold gPut at hg
          cases k with
          | int j0 =>
            dsimp only at hg
            obtain ⟨j, hj, hg⟩ := Option.map_eq_some_iff.mp hg
            subst hg
            obtain ⟨rfl, _⟩ := r2
            obtain ⟨l4, h1, h2⟩ := reps_set r3 ck rr' (ixN_lt hj)
            refine ⟨a, vs', j0, j, rfl, rfl, ha', by rw [rr'.len]; exact hj, ?_⟩
            refine hk M3 _ σ _ (((s2.toS s1.d).trans st3).trans (stS_store R3.dom hm')) (R3.store hs' e0 (by rw [el]; simp) (l' := a :: l4) ⟨a, _, l4, rfl, .inl ⟨hm', upd_same⟩, upd_keeps h1 (by simp) (fun z => (h2.mem z).elim hna ha3) hm', rfl⟩ (List.nodup_cons.mpr ⟨fun z => (h2.mem z).elim hna ha3, h2.nd nd nd3 hdl⟩) (fun b hb => ?_) rfl)
            rcases List.mem_cons.mp hb with z | z
            · exact .inl (by rw [el, z]; simp)
            · rcases h2.mem z with z | z
              · exact .inl (by rw [el]; simp [z])
              · exact .inr (fr3 b z)
          | _ => cases hg
        | _ => unfold gPut at hg; cases hg
      | dic m ks ds =>
        cases m with
        | own => exact absurd ⟨ks, ds, hs'⟩ hd
        | _ => unfold gPut at hg; cases hg
      | _ => unfold gPut at hg; cases hg
    · exact False.elim hk
end
end GS

namespace GS
open PySem PySem.Spec PyProof.Rows L2

/-! ## raise -/
section
variable {n : Env'} {G : GE} {X : Cx} {W : WX} {M M0 M1 M' : MM} {H H0 H1 H' : Hp} {s : Sl} {σ : L2.St} {P : Nat → Option V} {L : Nat → List Addr} {np : Nat} {Dd : Ends}
theorem raises_of (F : FC n G X) {c : Nat} (h : xcB G.sub c = true) : Raises X (.ref (n.c.ca c)) := raises_own (F.xk c h).1.ex (F.xk c h).1.ty
theorem sc_rai0 (F : FS n G X) (hcm : X.calm = true) {c : Nat} {x m : Str} {j : Nat} {p p2 cpos pos : Pos} (hx : x = n.cn c) (ok : n.okc c = true) (hg : Gl X x) (hdb : (x == ("__debug__" : Str)) = false) (hxf : n.xf c = []) :
    SC n G X np (.Raise (some (.Call (.Name x p) [.Constant (.str m) j p2] [] cpos)) none pos) (.rai c []) := by
  intro W tk P hP M s σ H L De R h
  unfold exec evalL at h
  simp only [Out.ofRes_ok] at h
  split at h
  · next hc =>
    simp only [Bool.and_eq_true] at hc
    obtain ⟨_, hxc, _⟩ := hc
    obtain ⟨hm, hk⟩ := F.cnm c ok
    rw [← hx] at hm
    refine ⟨_, ps_raise hcm tk (pmk_own PySem.F.excBase_ValueError (F.xt c hxc hxf) hm hk (raises_of F.toFC hxc) hg hdb), ?_⟩
    exact (show PostS n P W M H De (.ex c [] s) from h) M H σ L (StS.refl R.dom) R.pex none M H (St0.refl R.dom).x rfl
  · exact False.elim h
theorem RepA.frz {c : RC} {L : List Addr} (hL : ∀ a ∈ L, M a = some .own) : ∀ {ds : List D} {vs : List V} {l : List Addr}, RepA c M H ds vs l → (∀ a ∈ l, a ∈ L) → ds.all D.cl = true → RepA c (frzM M L) H (D.own2s .fz ds) vs []
  | [], _, _, h, _, _ => ⟨h.1, rfl⟩
  | d :: ds, vs, l, ⟨v, vs', l1, l2, e, r1, r2, hl⟩, hs, hc => by
    rw [List.all_cons, Bool.and_eq_true] at hc
    exact ⟨v, vs', [], [], e, Rep.freeze L d r1 (fun a ha => hs a (by rw [hl]; simp [ha])) hL hc.1, RepA.frz hL r2 (fun a ha => hs a (by rw [hl]; simp [ha])) hc.2, rfl⟩
theorem evalL_len {s : Sl} : ∀ {ts : List Tm} {ds : List D}, evalL G ts s = .ok ds → ds.length = ts.length
  | [], ds, h => by unfold evalL at h; cases h; rfl
  | t :: ts, ds, h => by
    unfold evalL at h
    cases h1 : evalE G t s with
    | ok d =>
      rw [h1, Res.bind_ok] at h
      cases h2 : evalL G ts s with
      | ok ds' => rw [h2] at h; cases h; simp [evalL_len h2]
      | ex c xs => rw [h2] at h; cases h
      | stuck => rw [h2] at h; cases h
    | ex c xs => rw [h1] at h; cases h
    | stuck => rw [h1] at h; cases h
/-- an exception with fields, made -/
theorem xrep_made {c : Nat} {ds : List D} {vs : List V} {l : List Addr} {C d : Addr} (dm : Dom M H) (st : St0 M H M1 H1) (ra : RepA n.c M1 H1 ds vs l) (fr : ∀ a ∈ l, H a = none) (hd1 : H1 d = none) (hc : ds.all D.cl = true) (h0 : ds ≠ []) :
    StX M H (layM (frzM M1 l) d .fz) (upd H1 d (.xd (((n.xf c).map n.c.an).zip vs).reverse)) ∧ XRep n.c n.xf (layM (frzM M1 l) d .fz) (upd H1 d (.xd (((n.xf c).map n.c.an).zip vs).reverse)) c (D.own2s .fz ds) (some d) := by
  have hL : ∀ a ∈ l, M1 a = some .own := fun a ha => (RepA.own ra a ha).1
  have hLH : ∀ a ∈ l, H1 a ≠ none := fun a ha => (RepA.own ra a ha).2
  have s2 : St0 M H (frzM M1 l) H1 := st0_frz st fr hLH
  have s3 := s2.trans (St0.lay (p := d) (m := .fz) (o := .xd (((n.xf c).map n.c.an).zip vs).reverse) s2.d hd1)
  refine ⟨s3.x, ?_⟩
  have r2 := (ra.frz hL (fun _ z => z) hc).step s2.d (St0.lay (p := d) (m := .fz) (o := .xd (((n.xf c).map n.c.an).zip vs).reverse) s2.d hd1)
  unfold XRep
  cases ds with
  | nil => exact absurd rfl h0
  | cons x ds => exact ⟨d, vs, rfl, layM_same, r2, upd_same⟩
theorem sc_rai (F : FS n G X) (hcm : X.calm = true) {c : Nat} {x : Str} {p cpos pos : Pos} {es : List Expr} {ts : List Tm} (hx : x = n.cn c) (ok : n.okc c = true) (hg : Gl X x) (hdb : (x == ("__debug__" : Str)) = false) (ha : All2 (OkSE n G X) es ts) (h0 : es ≠ []) (hl : es.length ≤ 900) :
    SC n G X np (.Raise (some (.Call (.Name x p) es [] cpos)) none pos) (.rai c ts) := by
  intro W tk P hP M s σ H L De R h
  unfold exec at h
  have hsa := sa_of ha
  have ho := All2.ok ha
  obtain ⟨hm, hk⟩ := F.cnm c ok
  rw [← hx] at hm
  cases es with
  | nil => exact absurd rfl h0
  | cons e es =>
    cases he : evalL G ts (viewS s) with
    | stuck => rw [he] at h; exact False.elim h
    | ex c' xs =>
      rw [he] at h
      have pe : PE X (.Call (.Name x p) (e :: es) [] cpos) (fun σ H _ => WA X (e :: es) σ H fun _ _ => False) := pe_callX hg hm hk wa ho hdb
      have pm : L2.PMk X (.Call (.Name x p) (e :: es) [] cpos) (fun σ H _ => WA X (e :: es) σ H fun _ _ => False) := fun pins sh σ H Q I h => wpAny_mono (pe.run pins sh σ H (fun _ _ => False) I h) (fun u s1 ⟨_, _, _, _, q⟩ => q.elim) fun _ _ z => z
      refine ⟨_, ps_raise hcm tk pm, ?_⟩
      exact hsa W tk M _ σ H _ R.view (by rw [he]; exact (show PostS n P W M H De (.ex c' xs s) from h) M H σ L (StS.refl R.dom) R.pex)
    | ok ds =>
      rw [he] at h
      simp only [Out.ofRes_ok] at h
      split at h
      · next hc =>
        simp only [Bool.and_eq_true, decide_eq_true_eq] at hc
        obtain ⟨hcl, hxc, hlen⟩ := hc
        have hdl : ds.length = (e :: es).length := by rw [evalL_len he, ← All2.len ha]
        have hxf : G.xf c ≠ [] := fun z => by rw [z, hdl] at hlen; cases hlen
        obtain ⟨T, k, fI, fd, ps, iC, tI, F1, hr, hb⟩ := F.xi hcm c hxc hxf
        have hpx : L2.PMk X (.Call (.Name x p) (e :: es) [] cpos) _ := pmk_oex (CX := L2.CX X.prog X.w) (dvs := []) (ds := []) T iC tI F1 hr hb .nil passL hg hm (wa (es := e :: es)) hdb (okE_star (ho e (by simp)) _ _) (noStar fun x hx => ho x (by simp [hx]))
        refine ⟨_, ps_raise hcm tk hpx, ?_⟩
        refine hsa W tk M _ σ H _ R.view ?_
        rw [he]
        intro vs M1 H1 l st ra fr nd
        have hvl : vs.length = ds.length := ra.len
        refine ⟨by rw [hvl, hdl]; omega, fun a hna => ?_⟩
        refine ⟨by simp only [List.append_nil, List.length_cons, List.length_map]; rw [hvl, F.xfE c hxf, hlen], a, vs ++ [], rfl, upd_same, fun d hdn hda => ?_⟩
        rw [upd_ne hda] at hdn
        refine ⟨rfl, d, _, upd_same, by rw [upd_ne hda, upd_same], hdn, ?_⟩
        rw [List.append_nil]
        obtain ⟨sx, xr⟩ := xrep_made (n := n) (c := c) (C := a) R.dom st ra fr hdn hcl (fun z => by rw [z] at hdl; cases hdl)
        have hH : upd (L2.del (upd (upd (upd H1 a (exo a (n.c.ca c) none)) d (exd d (((n.xf c).map n.c.an).zip vs).reverse)) a (exo a (n.c.ca c) (some d))) a) d (.xd (((n.xf c).map n.c.an).zip vs).reverse) = upd H1 d (.xd (((n.xf c).map n.c.an).zip vs).reverse) := by
          funext b
          by_cases h1 : b = d
          · rw [h1, upd_same, upd_same]
          · rw [upd_ne h1, upd_ne h1]
            by_cases h2 : b = a
            · rw [h2, del_same, hna]
            · rw [del_ne h2, upd_ne h2, upd_ne h1, upd_ne h2]
        rw [hH]
        exact (show PostS n P W M H De (.ex c (D.own2s .fz ds) s) from h) M H σ L (StS.refl R.dom) R.pex (some d) _ _ sx xr
      · exact False.elim h
end

/-! ## the __init__ of an exception with fields -/
/-- GainError.__init__, read off the class -/
structure BInitV (K : PySem.W.Frag) (C : Addr) : Prop where
  rd : PySem.W.readsIn K C (.type "type") = true
  ga : PySem.W.specialIn K (.ref C) "__getattribute__" = some (some (.builtin "type.__getattribute__"))
  at_ : PySem.W.findCls K (.ref C) (.type "type") "__init__" = some (.val (.builtin "ValueError.__init__"))
section
variable {X : Cx} {σ : L2.St} {H : Hp}
theorem pe_gei {B : Addr} {x : Str} {p apos pos : Pos} {e : Expr} {es : List Expr} {t : TA} (hg : Gl X x) (hmg : X.mg x = some (.ref B)) (hdb : (x == ("__debug__" : Str)) = false) (T : BInitV X.K B) (ha : PA X (e :: es) t)
    (ho : ∀ q ∈ e :: es, okE q = true) (hl : (e :: es).length < 29) (hln : (apos.endLine == pos.line) = true) : PE X (.Call (.Attribute (.Name x p) "__init__" apos) (e :: es) [] pos) (tVeI X.K t) := by
  refine ⟨fun pins sh σ H Q I h => ?_⟩
  refine PySem.W.methodCall_KW (pl := plainOf (.Name x p) X.env) (ld_glob I hg hmg ?_ hdb) (ev_meth rfl ho hl hln)
  refine PySem.W.method_cls I.kIn T.ga (PySem.W.cls_value I.kIn T.rd T.at_ (by decide +kernel) ?_)
  have I' := I.tok (sh.toks + 1)
  show wpAny _ _ (callWith pos (Value.builtin "ValueError.__init__") [] (backTo pos (starEach (e :: es) X.env)) []) _ _ _
  refine PyProof.Rows.callWith_method1 (thn (ha.run pos pins _ σ H _ I' h) fun us s1 ⟨vs, H1, I1, r1, a, C, ws, ev, hl2, T2, ea, q⟩ => ?_) (okE_star (ho e (by simp)) _ _) (noStar fun x hx => ho x (by simp [hx]))
  subst ev
  cases r1 with
  | @cons _ u0 _ ur ra rw' =>
    obtain rfl : u0 = Value.ref a := ra
    have hur : ur.length ≤ sizeLine := by
      rw [← Paired.length rw', sizeLine_eq]
      omega
    exact oinit_ok T2 I1 ea hur fun s' J => ⟨.non, H1, J, rfl, q⟩
/-- self.f = p, .. -/
def asg1 (N : List Str) (sc : Scope) (self : Str) (k : Nat) (f : Str) : Stmt → Bool
  | .Assign [.Attribute (.Name s _) g _] (.Name x _) _ => decide (s = self) && decide (g = f) && decide (N[k]? = some x) && decide (sc.names.lookup x = some .local) && !(x == ("__debug__" : Str)) && !(x == ("__classdict__" : Str))
  | _ => false
def asgB (N : List Str) (sc : Scope) (self : Str) : Nat → List Str → List Stmt → Bool
  | _, [], r => r.isEmpty
  | k, f :: fs, r => match r with
    | st :: r => asg1 N sc self k f st && asgB N sc self (k + 1) fs r
    | [] => false
theorem asg_run {N : List Str} {self : Str} {a C d : Addr} {H0 : Hp} (hN0 : N[0]? = some self) (hs : X.env.scope.names.lookup self = some .local) (h1 : (self == ("__debug__" : Str)) = false) (h2 : (self == ("__classdict__" : Str)) = false) (hXN : X.N = N) (T : OexC X.K C) (s0 : σ[0]? = some (some (.ref a))) (hda : d ≠ a) {D : Ends} :
    ∀ (rest : List Stmt) (k : Nat) (fs : List Str) (ws : List V) (done : List (Str × V)), asgB N X.env.scope self k fs rest = true → (∀ f ∈ fs, PySem.W.findIn X.K (.ref C) f = some none) → fs.length = ws.length → (∀ i v, ws[i]? = some v → σ[k + i]? = some (some v)) → done.length + fs.length ≤ 900 →
      D.nx σ (upd (upd H0 d (exd d ((fs.zip ws).reverse ++ done))) a (exo a C (some d))) → WSs X rest D σ (upd (upd H0 d (exd d done)) a (exo a C (some d)))
  | [], _, [], [], done, _, _, _, _, _, q => ⟨_, pss_nil, q⟩
  | [], _, f :: fs, _, _, h, _, _, _, _, _ => by unfold asgB at h; cases h
  | [], _, [], _ :: _, _, _, _, h, _, _, _ => by cases h
  | st :: rest, k, [], ws, done, h, _, _, _, _, _ => by unfold asgB at h; cases h
  | st :: rest, k, f :: fs, [], done, _, _, h, _, _, _ => by cases h
  | st :: rest, k, f :: fs, w :: ws, done, h, hno, hl, hσ, hz, q => by
    unfold asgB at h
    dsimp only at h
    rw [Bool.and_eq_true] at h
    obtain ⟨h, hr⟩ := h
    unfold asg1 at h
    split at h
    · next s p1 g p2 x p3 p4 =>
      simp only [Bool.and_eq_true, decide_eq_true_eq, Bool.not_eq_true'] at h
      obtain ⟨⟨⟨⟨⟨rfl, rfl⟩, hx⟩, hl1⟩, hl2⟩, hl3⟩ := h
      have pa := pe_var (X := X) (pos := p3) (by rw [hXN]; exact hx) (.inl hl1) hl2 hl3
      have pb := pe_var (X := X) (pos := p1) (by rw [hXN]; exact hN0) (.inl hs) h1 h2
      refine ⟨_, pss_cons (ps_ost pb pa rfl) wss, w, by have := hσ 0 w rfl; simpa using this, .ref a, s0, a, C, rfl, T, hno _ (by simp), .inr ⟨d, done, upd_same, by rw [upd_ne hda, upd_same], by simp at hz; omega, ?_⟩⟩
      have e : upd (upd (upd H0 d (exd d done)) a (exo a C (some d))) d (exd d ((g, w) :: done)) = upd (upd H0 d (exd d ((g, w) :: done))) a (exo a C (some d)) := by
        funext b
        by_cases z1 : b = d
        · rw [z1, upd_same, upd_ne hda, upd_same]
        · by_cases z2 : b = a
          · rw [upd_ne z1, z2, upd_same, upd_same]
          · rw [upd_ne z1, upd_ne z2, upd_ne z1, upd_ne z2, upd_ne z1]
      rw [e]
      refine asg_run hN0 hs h1 h2 hXN T s0 hda rest (k + 1) fs ws ((g, w) :: done) hr (fun f hf => hno f (by simp [hf])) (by simpa using hl) (fun i v hi => by have := hσ (i + 1) v (by simpa using hi); rwa [show k + 1 + i = k + (i + 1) by omega]) (by simp at hz ⊢; omega) ?_
      rw [show ((fs.zip ws).reverse ++ (g, w) :: done) = (((g :: fs).zip (w :: ws)).reverse ++ done) by simp]
      exact q
    · cases h
end
end GS

namespace GS
open PySem PySem.Spec PyProof.Rows L2

/-! ## try: what was locked is free again, the caught exception is tracked -/
section
variable {X : Cx} {pins : List (Addr × Obj)} {σ : L2.St} {H H' : Hp} {s : Shared}
open Classical in
/-- dicts of H that were locked since are as in H -/
noncomputable def unlk (H H' : Hp) : Hp := fun a => if ∃ kvs od, H a = some (.dK kvs) ∧ H' a = some (.frz od (.dK kvs)) then H a else H' a
theorem unlk_of {a : Addr} (k : KeepX H H' a) : unlk H H' a = H a := by
  unfold unlk
  split
  · rfl
  · next h =>
    rcases k with e | z
    · exact e
    · exact absurd z h
theorem unlk_none {a : Addr} (h : H' a = none) : unlk H H' a = none := by
  unfold unlk
  rw [if_neg (fun ⟨_, _, _, z⟩ => by rw [h] at z; cases z)]
  exact h
theorem unlk_rest {a : Addr} (h : ∀ o u, H' a ≠ some (.frz o u)) : unlk H H' a = H' a := by
  unfold unlk
  rw [if_neg (fun ⟨_, _, _, z⟩ => h _ _ z)]
theorem unlk_k1 (a : Addr) : Keep1 H' (unlk H H') a := by
  by_cases h : ∃ kvs od, H a = some (.dK kvs) ∧ H' a = some (.frz od (.dK kvs))
  · have e : unlk H H' a = H a := by unfold unlk; rw [if_pos h]
    obtain ⟨kvs, od, h1, h2⟩ := h
    exact .inr ⟨kvs, .inr ⟨od, h2⟩, .inl (e.trans h1)⟩
  · exact .inl (by unfold unlk; rw [if_neg h])
open Classical in
theorem inv_unlk (hf : ∀ d o u, X.H_0 d = some (.frz o u) → H d = some (.frz o u)) (I : Inv X pins σ H' s) : Inv X pins σ (unlk H H') s := by
  let hx : Nat → Hp := fun m a => if Nat.blt a m = true then unlk H H' a else H' a
  have lo : ∀ {m : Nat} {a : Addr}, Nat.lt a m → hx m a = unlk H H' a := fun {m a} h => if_pos (Nat.blt_eq.mpr h)
  have hi : ∀ {m : Nat} {a : Addr}, ¬ Nat.lt a m → hx m a = H' a := fun {m a} h => if_neg (fun z => h (Nat.blt_eq.mp z))
  have go : ∀ m : Nat, Inv X pins σ (hx m) s := by
    intro m
    induction m with
    | zero =>
      have : hx 0 = H' := by funext a; exact hi (Nat.not_lt_zero _)
      rw [this]; exact I
    | succ m ih =>
      by_cases h : ∃ kvs od, H m = some (.dK kvs) ∧ H' m = some (.frz od (.dK kvs))
      · obtain ⟨kvs, od, h1, h2⟩ := id h
        have J := ih.unlock (d := m) (od := od) (u := .dK kvs) ((hi (Nat.lt_irrefl m)).trans h2) (fun o u z => by rw [hf m o u z] at h1; cases h1)
        have : upd (hx m) m (.dK kvs) = hx (m + 1) := by
          funext a
          by_cases z : a = m
          · subst z
            rw [upd_same, lo (Nat.lt_succ_self _)]
            unfold unlk
            rw [if_pos h, h1]
          · rw [upd_ne z]
            by_cases y : Nat.lt a m
            · rw [lo y, lo (Nat.lt_succ_of_lt y)]
            · rw [hi y, hi (fun q => (Nat.lt_succ_iff_lt_or_eq.mp q).elim y z)]
        rw [← this]; exact J
      · have : hx (m + 1) = hx m := by
          funext a
          by_cases z : a = m
          · subst z
            rw [lo (Nat.lt_succ_self _), hi (Nat.lt_irrefl _)]
            unfold unlk
            rw [if_neg h]
          · by_cases y : Nat.lt a m
            · rw [lo y, lo (Nat.lt_succ_of_lt y)]
            · rw [hi y, hi (fun q => (Nat.lt_succ_iff_lt_or_eq.mp q).elim y z)]
        rw [this]; exact ih
  have J := go s.heap.objs.size
  have : hx s.heap.objs.size = unlk H H' := by
    funext a
    by_cases y : Nat.lt a s.heap.objs.size
    · exact lo y
    · have fr := I.hok.fresh (Nat.le_of_not_lt y)
      rw [hi y, unlk_none fr]
      exact fr
  rw [this] at J; exact J
theorem exR_ok {P : Program} {w : World} {h : Heap} {a : Addr} {cls : Value} {d : Option Addr} {oe : Obj} {vs : Array Value} (e : h.get? a = some oe) (z : Zc cls d oe) (v : oe.data = .fields vs) : ObjOk P w H h a (exR cls d a) :=
  ⟨⟨oe, vs, e, z, v⟩, ⟨oe, e⟩, fun h1 h2 ⟨o, v, q, r⟩ k => ⟨o, v, k _ q, r⟩⟩
theorem exR_own {a x : Addr} {cls : Value} {d : Option Addr} : exR cls d a ≠ .own x := fun z => by cases z
/-- a caught exception is tracked -/
theorem inv_track (I : Inv X pins σ H s) {a : Addr} {cls : Value} {d : Option Addr} {oe : Obj} {vs : Array Value} (ha : s.heap.get? a = some oe) (hz : Zc cls d oe) (hv : oe.data = .fields vs) (na : H a = none) (nL : a ≠ X.env.locals)
    (n0 : X.s_0.heap.get? a = none) (np : ∀ p ∈ X.pn ++ pins, p.1 ≠ a) : Inv X pins σ (upd H a (exR cls d a)) s := by
  have ne : ∀ {b : Addr} {o : HO}, H b = some o → b ≠ a := fun {b o} e z => by rw [z, na] at e; cases e
  refine ⟨I.ok, I.os, I.bare, ⟨I.base.keep, I.base.slot, fun b o e h0 hx => ?_, I.base.there, fun b xs e => ?_, fun b o u e => ?_, fun b ps e => ?_⟩, I.loc, I.cell, ?_, fun x c e => ?_, fun p hp => ?_, fun b o e => ?_, I.len⟩
  · rw [upd_ne (fun z => by rw [z, n0] at e; cases e)]; exact I.base.free b o e h0 hx
  · have q := I.base.tups b xs e
    rw [upd_ne (ne q)]; exact q
  · have q := I.base.frzs b o u e
    rw [upd_ne (ne q)]; exact q
  · obtain ⟨m, q⟩ := I.base.tbls b ps e
    exact ⟨m, by rw [upd_ne (ne q)]; exact q⟩
  · rw [upd_ne (Ne.symm nL)]; exact I.free
  · rw [upd_ne]
    · exact I.freeC x c e
    · intro z
      subst z
      obtain ⟨v, o, ho, hd⟩ := I.cell x c e
      rw [ha] at ho; cases ho
      rw [hv] at hd; cases hd
  · obtain ⟨h1, h2, h3⟩ := I.pin p hp
    exact ⟨h1, by rw [upd_ne (np p hp)]; exact h2, h3⟩
  · by_cases z : b = a
    · subst z
      rw [upd_same] at e
      cases e
      exact exR_ok ha hz hv
    · rw [upd_ne z] at e
      exact (I.hok b o e).stay (fun c v _ q => q) (fun c hc => by rw [upd_ne (ne hc)]; exact hc) fun c xs hc => by rw [upd_ne (ne hc)]; exact hc
theorem inv_suiteT (I : Inv X pins σ H s) (a : Addr) : Inv (X.suite a (X.pn ++ pins)) [] σ H s :=
  ⟨I.ok.suite _ _, I.os, I.bare, I.base, I.loc, I.cell, I.free, I.freeC, fun p hp => I.pin p (by rw [List.append_nil] at hp; exact hp), I.hok, I.len⟩
theorem inv_unsuiteT {a : Addr} (I : Inv (X.suite a (X.pn ++ pins)) [] σ H s) (ok : X.Ok) : Inv X pins σ H s :=
  ⟨ok, I.os, I.bare, I.base, I.loc, I.cell, I.free, I.freeC, fun p hp => I.pin p (by rw [List.append_nil]; exact hp), I.hok, I.len⟩
end
/-! ## except clauses -/
structure HZ where
  c : Value
  o : Option Nat
  ts : Addr → TS
def HZ.ends (h : HZ) (D : Ends) : Ends := match h.o with
  | some i => { nx := fun σ' H' => D.nx (σ'.set i none) H', rt := D.rt, bk := fun σ' H' => D.bk (σ'.set i none) H', ct := fun σ' H' => D.ct (σ'.set i none) H' }
  | none => D
def HZ.at_ (h : HZ) (a : Addr) (σ : L2.St) : L2.St := match h.o with
  | some i => σ.set i (some (.ref a))
  | none => σ
def wZ (K : PySem.W.Frag) (Wout : WX) (D : Ends) : List HZ → WX
  | [] => Wout
  | h :: r => fun cls d σ H => ∃ b, PySem.W.exmOne K cls h.c = some b ∧ (b = true → ∀ a, H a = none → h.ts a (h.ends D) (h.at_ a σ) (upd H a (exR cls d a))) ∧ (b = false → wZ K Wout D r cls d σ H)
def NmOk (X : Cx) : Option Str → Option Nat → Prop
  | none, none => True
  | some m, some i => X.N[i]? = some m ∧ X.env.kindOf m = some .local
  | _, _ => False
inductive HdZ (X : Cx) : List ExceptHandler → List HZ → Prop
  | nil : HdZ X [] []
  | cons {x : Str} {c : Value} {no : Option Str} {o : Option Nat} {ts : Addr → TS} {b₀ : Stmt} {suite : List Stmt} {np pos' : Pos} {hds : List ExceptHandler} {l : List HZ} (hc : Names X x c) (hn : NmOk X no o)
      (hsu : ∀ (a : Addr) (pn : List (Addr × Obj)), PSs (X.suite a pn) (b₀ :: suite) (ts a)) (r : HdZ X hds l) :
      HdZ X (.ExceptHandler (some (.Name x np)) no (b₀ :: suite) pos' :: hds) (⟨c, o, ts⟩ :: l)
section
variable {X : Cx} {body : List Stmt} {h₀ : ExceptHandler} {hds : List ExceptHandler} {l : List HZ} {pos : Pos} {tb : WX → TS} {Wout : WX}
theorem ps_tryZ (hs : X.stack = X.env :: X.outer) (hf : X.env.frame = some X.env.locals) (hex : X.ex = []) (hN : X.N.Nodup) (tk : Takes X Wout)
    (hb : ∀ (W : WX) (pn : List (Addr × Obj)) (xe : Value → Shared → Prop), Takes (X.tr pn xe) W → PassesOwn (model X.prog X.w) X.A X.env xe → PSs (X.tr pn xe) body (tb W))
    (hh : HdZ X (h₀ :: hds) l) : PS X (.Try body (h₀ :: hds) [] [] pos) (fun D σ H => tb (fun cls d σ' H' => wZ X.K Wout D l cls d σ' (unlk H H')) D σ H) := by
  refine ⟨fun pins s σ H D I h => ?_⟩
  have ok := I.ok
  have hfr : X.A.frames = some (X.env :: X.outer) := by rw [ok.frames, hs]
  refine wpAny_Try_except ?_
  let WB : WX := fun cls d σ' H' => wZ X.K Wout D l cls d σ' (unlk H H')
  let EB : Value → Shared → Prop := fun e s1 => wpAny (model X.prog X.w) X.A (noteFrame e X.env) (fun _ s2 => wpAny (model X.prog X.w) X.A (setFlight e none) (fun _ s3 =>
    wpAny (model X.prog X.w) X.A (handleBy e X.env (h₀ :: hds)) (SP X pins D) X.xe s3) X.xe s2) X.xe s1
  refine wpAny_mono ((hb WB (X.pn ++ pins) EB (fun u s' xx => ?_) PassesOwn.looking).run [] s σ H D (I.toTry _) h) (fun f s1 hsp => ?_) (fun e s1 he => he)
  · obtain ⟨a, B, sI, pins', σ', H1, cls, d, rfl, J', nb, up, sky, na, os, ag, w⟩ := xx
    have J0 : Inv X pins σ' H1 sI := J'.ofTry ok
    have J := inv_unlk (H := H) (fun b o u e => I.base.frzs b o u e) J0
    have na : unlk H H1 a = none := unlk_none na
    have sky' : Sky B (X.env :: X.outer) a (Zc cls d) X.env.locals s'.heap := by rw [← hs]; exact sky
    show wpAny (model X.prog X.w) X.A (noteFrame (.ref a) X.env) _ _ _
    refine Sky.land Zc.steady hfr hf sky' fun h3 fl3 up3 => ?_
    have J3 : Inv X pins σ' (unlk H H1) { s' with heap := h3 } := J.landed nb fl3.1 (up.trans up3) os ag
    obtain ⟨oe3, vs3, he3, hz3, hd3⟩ := fl3.there
    have nfr : a ∉ frs (X.env :: X.outer) := fun hm => by
      obtain ⟨_, o', e', hnf⟩ := fl3.2.2.1.mem hm
      rw [he3] at e'; cases e'
      exact hnf _ hd3
    have nL : a ≠ X.env.locals := fun z => nfr (List.mem_filterMap.mpr ⟨X.env, List.mem_cons_self, by rw [hf, z]⟩)
    have nfs : a ∉ frs X.stack := by rw [hs]; exact nfr
    have nI : sI.heap.get? a = none := by
      cases q : sI.heap.get? a with
      | none => rfl
      | some o =>
        have z := nb a o q nfs
        rw [fl3.2.1] at z; cases z
    have n0 : X.s_0.heap.get? a = none := by
      cases q : X.s_0.heap.get? a with
      | none => rfl
      | some o =>
        obtain ⟨o', z⟩ := J.base.there a o q (by rw [hex]; simp)
        rw [nI] at z; cases z
    have npn : ∀ p ∈ X.pn ++ pins, p.1 ≠ a := fun p hp z => by
      have q := (J.pin p hp).1
      rw [z, nI] at q; cases q
    have go : ∀ {hds' : List ExceptHandler} {l' : List HZ}, HdZ X hds' l' → wZ X.K Wout D l' cls d σ' (unlk H H1) →
        wpAny (model X.prog X.w) X.A (handleBy (.ref a) X.env hds') (SP X pins D) X.xe { s' with heap := h3 } := by
      intro hds' l' hk
      induction hk with
      | nil =>
        intro w
        refine wpAny_handleBy_nil ?_
        obtain ⟨k1, k2, k3, oe, vs, T, oT, ts', he, hz, hd, h1, hr⟩ := id fl3
        unfold PySem.passOn
        refine wpAny_bind (wpAny_field he hd h1 ?_)
        rw [if_neg (show ¬ ((Value.ref T == Value.none) = true) from by simp)]
        have out : wpAny (model X.prog X.w) X.A (setFlight (.ref a) X.env.frame) (fun _ s4 => wpAny (model X.prog X.w) X.A (throw (.ref a) : Sem Flow) (SP X pins D) X.xe s4) X.xe { s' with heap := h3 } := by
          rw [hf]
          refine HandSPX.setFlight_upZ fl3 fun h4 hh4 up4 => wpAny_throw (tk _ _ ?_)
          exact ⟨a, B, sI, pins, σ', unlk H H1, cls, d, rfl, J, nb, (up.trans up3).trans up4, .inr (.inr (by rw [hs]; exact hh4)), na, os, ag, w⟩
        first
          | exact wpAny_bind out
          | exact wpAny_bind (wpAny_pure (wpAny_bind out))
      | @cons x c no o ts b₀ suite np pos' hds2 l2 hc hn hsu r ih =>
        intro w
        obtain ⟨b, hb1, hyes, hno⟩ := w
        refine wpAny_handleBy_cons (codeAny_handlers_test ?_) (by intro q; cases q)
        have LT : PySem.W.Looks (model X.prog X.w) h3 (typeOf (.ref a)) cls := fun A2 Q E s2 k q => wpAny_typeOf_ref (k _ _ he3) (by rw [hz3.1]; exact q)
        have LM := PySem.W.exm_one (M := model X.prog X.w) (J3.kIn) LT hb1
        have S3 := inv_suiteT J3 a
        have test : ∀ {Q : Value → Shared → Prop} {E : Value → Shared → Prop}, Q c { s' with heap := h3 } → wpAny (model X.prog X.w) (X.A.mark (some (.ref a))) (eval (.Name x np) X.env) Q E { s' with heap := h3 } := fun {Q E} q => by
          obtain ⟨hg, hdbg, hm | ⟨hm, hv, hnn⟩⟩ := hc
          · exact ld_glob (X := X.suite a (X.pn ++ pins)) S3 hg hm q hdbg
          · exact ld_blt (X := X.suite a (X.pn ++ pins)) S3 hg hm hv q hnn hdbg
        refine test (LM.here ?_)
        cases b with
        | true =>
          have hh4 : ∀ {h4 : Heap} (fl4 : HandSPX.FlyingZ B (X.env :: X.outer) a (Zc cls d) h4) (up4 : s'.heap.UpToSlots h4), Inv X pins σ' (upd (unlk H H1) a (exR cls d a)) { s' with heap := h4 } := fun {h4} fl4 up4 => by
            have J4 : Inv X pins σ' (unlk H H1) { s' with heap := h4 } := J.landed nb fl4.1 (up.trans up4) os ag
            obtain ⟨oe4, vs4, he4, hz4, hd4⟩ := fl4.there
            exact inv_track J4 he4 hz4 hd4 na nL n0 npn
          have hw := hyes rfl a na
          cases no with
          | none =>
            cases o with
            | some i => exact False.elim hn
            | none =>
              refine codeAny_handlers_suite ?_
              refine HandSPX.lands_againZ fl3 fun h4 fl4 up4 => ?_
              have S4 := inv_suiteT (hh4 fl4 (up3.trans up4)) a
              refine wpAny_mono ((hsu a (X.pn ++ pins)).run [] _ _ _ _ S4 hw) (fun f s6 hsp => ?_) (fun _ _ z => False.elim z)
              cases f with
              | next => obtain ⟨σ6, H6, S6, q6⟩ := hsp; exact ⟨_, _, inv_unsuiteT S6 ok, q6⟩
              | brk => obtain ⟨σ6, H6, S6, q6⟩ := hsp; exact ⟨_, _, inv_unsuiteT S6 ok, q6⟩
              | cont => obtain ⟨σ6, H6, S6, q6⟩ := hsp; exact ⟨_, _, inv_unsuiteT S6 ok, q6⟩
              | ret u => obtain ⟨v6, σ6, H6, S6, r6, q6⟩ := hsp; exact ⟨_, _, _, inv_unsuiteT S6 ok, r6, q6⟩
          | some m =>
            cases o with
            | none => exact False.elim hn
            | some i =>
              obtain ⟨hi, hln⟩ := hn
              refine codeAny_handlers_suite_as ?_
              refine HandSPX.lands_againZ fl3 fun h4 fl4 up4 => ?_
              have S4 := inv_suiteT (hh4 fl4 (up3.trans up4)) a
              refine store_ok (X := X.suite a (X.pn ++ pins)) (v := .ref a) S4 hN hi (.inl hln) rfl (fun s5 S5 => ?_) (.inr hln)
              refine wpAny_mono ((hsu a (X.pn ++ pins)).run [] s5 _ _ _ S5 hw) (fun f s6 hsp => ?_) (fun _ _ z => False.elim z)
              have gone : ∀ {σ6 : L2.St} {H6 : Hp} {Q : Shared → Prop}, Inv (X.suite a (X.pn ++ pins)) [] σ6 H6 s6 → (∀ s7, Inv X pins (σ6.set i none) H6 s7 → Q s7) →
                  wpAny (model X.prog X.w) X.A (do bindName X.env m .none; unbindBehindTheSuite X.env m pos') (fun _ s7 => Q s7) X.xe s6 := fun {σ6 H6 Q} S6 hq => gone_ok (inv_unsuiteT S6 ok) hN hi hln hq
              cases f with
              | next => obtain ⟨σ6, H6, S6, q6⟩ := hsp; exact gone S6 fun s7 J7 => ⟨_, _, J7, q6⟩
              | brk => obtain ⟨σ6, H6, S6, q6⟩ := hsp; exact gone S6 fun s7 J7 => ⟨_, _, J7, q6⟩
              | cont => obtain ⟨σ6, H6, S6, q6⟩ := hsp; exact gone S6 fun s7 J7 => ⟨_, _, J7, q6⟩
              | ret u => obtain ⟨v6, σ6, H6, S6, r6, q6⟩ := hsp; exact gone S6 fun s7 J7 => ⟨_, _, _, J7, r6, q6⟩
        | false =>
          show wpAny _ X.A (handleBy (.ref a) X.env hds2) _ _ _
          exact ih (hno rfl)
    exact go hh w
  · cases f with
    | next => obtain ⟨σ', H1, J', q⟩ := hsp; exact wpAny_execs_nil ⟨σ', H1, J'.ofTry ok, q⟩
    | brk => obtain ⟨σ', H1, J', q⟩ := hsp; exact ⟨σ', H1, J'.ofTry ok, q⟩
    | cont => obtain ⟨σ', H1, J', q⟩ := hsp; exact ⟨σ', H1, J'.ofTry ok, q⟩
    | ret u => obtain ⟨v, σ', H1, J', r, q⟩ := hsp; exact ⟨v, σ', H1, J'.ofTry ok, r, q⟩
end
end GS

namespace GS
open PySem PySem.Spec PyProof.Rows L2

/-! ## statements whose exception leaves the slots as they were -/
def PostA (n : Env') (P : Nat → Option V) (W : WX) (M : MM) (σ : L2.St) (H : Hp) (D : Ends) : Out → Prop
  | .ex c ds _ => PX n M H (fun cls d H' => W cls d σ H') c ds
  | o => PostS n P W M H D o
def SCA (n : Env') (G : GE) (X : Cx) (np : Nat) (st : Stmt) (c : Cm) : Prop := ∀ (W : WX), Takes X W → ∀ (P : Nat → Option V), (∀ i v, P i = some v → i < np) → ∀ M s σ H L D, RelL n.c P M s σ H L → PostA n P W M σ H D (exec G whileV np c s) → WS X st D σ H
def SCAs (n : Env') (G : GE) (X : Cx) (np : Nat) (sts : List Stmt) (cs : List Cm) : Prop := ∀ (W : WX), Takes X W → ∀ (P : Nat → Option V), (∀ i v, P i = some v → i < np) → ∀ M s σ H L D, RelL n.c P M s σ H L → PostA n P W M σ H D (execs G whileV np cs s) → WSs X sts D σ H
section
variable {n : Env'} {G : GE} {X : Cx} {W : WX} {M M0 M1 M' : MM} {H H0 H1 H' : Hp} {s : Sl} {σ : L2.St} {P : Nat → Option V} {L : Nat → List Addr} {np : Nat} {Dd : Ends}
theorem postA_res {α : Type} {r : Res α} {f : α → Out} (h : PostA n P W M σ H Dd (Out.ofRes s r f)) : PR r (fun a => PostA n P W M σ H Dd (f a)) (PX n M H fun cls d H' => W cls d σ H') := by
  cases r with
  | ok a => exact h
  | ex c ds => exact h
  | stuck => exact h
theorem PostA.toS {o : Out} (h : PostA n P W M σ H Dd o) (hn : ∀ c ds s, o ≠ .ex c ds s) : PostS n P W M H Dd o := by
  cases o with
  | ex c ds s => exact absurd rfl (hn c ds s)
  | _ => exact h
theorem sca_set (F : FS n G X) {i : Nat} {x : Str} {e : Expr} {t : Tm} {pos pos' : Pos} (hN : X.N[i]? = some x) (hx : locC X.env.scope X.fn x = true) (he : SE n G X e t) (hs : swapsWith e (some (.Name x pos')) pos.line X.env = pure false) : SCA n G X np (.Assign [.Name x pos'] e pos) (.set i t) := by
  intro W tk P hP M s σ H L D R h
  unfold exec at h
  obtain ⟨h1, h2⟩ := loc_of hx
  refine ⟨_, ps_set F.nd hN h1 we hs h2, ?_⟩
  refine he W tk M _ σ H _ R.view ((postA_res h).imp (fun d ed hd v M1 H1 l s1 r f nd => ?_) fun _ _ q => q)
  obtain ⟨s', hs', hd⟩ := post_opt (hd.toS fun c ds s z => by unfold ofOpt at z; split at z <;> cases z)
  unfold setS at hs'
  split at hs'
  · next hc =>
    rw [Bool.and_eq_true] at hc
    cases hs'
    obtain ⟨L', R', _⟩ := (R.step s1).put r nd (fresh_L R f) (free_none R hP hc.1) (by have := hc.2; unfold notVw at this; simpa using this)
    exact hd M1 H1 _ L' (s1.toS R.dom) R'
  · cases hs'
theorem sca_ex (F : FS n G X) {e : Expr} {t : Tm} {pos : Pos} (he : SE n G X e t) (hs : swapsWith e none pos.line X.env = pure false) : SCA n G X np (.Expr e pos) (.ex t) := by
  intro W tk P hP M s σ H L D R h
  unfold exec at h
  refine ⟨_, ps_expr we hs, ?_⟩
  exact he W tk M _ σ H _ R.view ((postA_res h).imp (fun d ed hd v M1 H1 l s1 r f nd => (show PostS n P W M H D (.nx s) from hd) M1 H1 σ L (s1.toS R.dom) (R.step s1)) fun _ _ q => q)
theorem sca_ret (F : FS n G X) {e : Expr} {t : Tm} {pos : Pos} (he : SE n G X e t) : SCA n G X np (.Return (some e) pos) (.ret t) := by
  intro W tk P hP M s σ H L D R h
  unfold exec at h
  refine ⟨_, ps_ret we, ?_⟩
  refine he W tk M _ σ H _ R.view ((postA_res h).imp (fun d ed hd v M1 H1 l s1 r f nd => ?_) fun _ _ q => q)
  split at hd
  · next hc => exact (show PostS n P W M H D (.rt d s) from hd) M1 H1 σ L v l hc (s1.toS R.dom) (R.step s1) r nd fun i a ha => fresh_L R f a ha i
  · exact False.elim hd
theorem scas_nil : SCAs n G X np [] [] := by
  intro W tk P hP M s σ H L D R h
  unfold execs at h
  exact ⟨_, pss_nil, (show PostS n P W M H D (.nx s) from h) M H σ L (StS.refl R.dom) R⟩
theorem PostA.step {o : Out} (st : St0 M H M1 H1) (d : Dom M H) (h : PostA n P W M σ H Dd o) : PostA n P W M1 σ H1 Dd o := by
  cases o with
  | ex c ds s => exact PX.step st (show PX n M H (fun cls d H' => W cls d σ H') c ds from h)
  | stuck => exact h
  | nx s => exact PostS.mono (show PostS n P W M H Dd (.nx s) from h) (st.toS d)
  | rt x s => exact PostS.mono (show PostS n P W M H Dd (.rt x s) from h) (st.toS d)
  | bk s => exact PostS.mono (show PostS n P W M H Dd (.bk s) from h) (st.toS d)
  | ct s => exact PostS.mono (show PostS n P W M H Dd (.ct s) from h) (st.toS d)
/-- one statement, then ghosts -/
theorem scas_one {st : Stmt} {c : Cm} {gs : List Cm} (h1 : SCA n G X np st c) (h2 : SCs n G X np [] gs) (hg : ∀ s c ds s', execs G whileV np gs s ≠ .ex c ds s') : SCAs n G X np [st] (c :: gs) := by
  intro W tk P hP M s σ H L D R h
  unfold execs at h
  refine ⟨_, pss_cons ws wss, ?_⟩
  refine h1 W tk P hP M s σ H L _ R ?_
  cases e : exec G whileV np c s with
  | nx s' =>
    rw [e] at h
    have h : PostS n P W M H D (execs G whileV np gs s') := PostA.toS h (hg s')
    exact fun M' H' σ' L' st' R' => h2 W tk P hP M' s' σ' H' L' D R' (PostS.mono h st')
  | bk s' => rw [e] at h; exact h
  | ct s' => rw [e] at h; exact h
  | rt d s' => rw [e] at h; exact h
  | ex c' ds s' => rw [e] at h; exact h
  | stuck => rw [e] at h; exact h
theorem sca_ite {c : Expr} {a b : List Stmt} {tc : Tm} {ca cb : List Cm} {pos : Pos} (hc : ST n G X c tc) (ha : SCAs n G X np a ca) (hb : SCAs n G X np b cb) : SCA n G X np (.If c a b pos) (.ite tc ca cb) := by
  intro W tk P hP M s σ H L D R h
  unfold exec at h
  refine ⟨_, ps_if wt wss wss, ?_⟩
  refine hc W tk M _ σ H _ R.view ((postA_res h).imp (fun r er hr M1 H1 s1 => ?_) fun _ _ q => q)
  cases r with
  | true => exact ha W tk P hP M1 s σ H1 L D (R.step s1) (PostA.step s1 R.dom (show PostA n P W M σ H D (execs G whileV np ca s) from hr))
  | false => exact hb W tk P hP M1 s σ H1 L D (R.step s1) (PostA.step s1 R.dom (show PostA n P W M σ H D (execs G whileV np cb s) from hr))
/-! ## try -/
/-- a slot forgotten, in both states -/
theorem RelL.drop2 {i : Nat} (R : RelL n.c P M s σ H L) (hp : P i = none) : RelL n.c P M (s.set i none) (σ.set i none) H (fun j => if j = i then [] else L j) := by
  have R1 := R.drop hp
  have ne : ∀ {j : Nat} {d : D}, (s.set i none)[j]? = some (some d) → j ≠ i := fun {j d} e z => by
    subst z
    by_cases hi : j < s.length
    · rw [List.getElem?_set_self hi] at e; cases e
    · rw [List.getElem?_eq_none (by rw [List.length_set]; omega)] at e; cases e
  refine ⟨by simp [R.len], R.dom, fun j x e => ?_, R1.nd, R1.dj, R1.ow, fun j w e => ?_⟩
  · obtain ⟨v, h1, h2⟩ := R1.at_ j x e
    exact ⟨v, by rw [List.getElem?_set_ne (Ne.symm (ne e))]; exact h1, h2⟩
  · have hj : j ≠ i := fun z => by rw [z, hp] at e; cases e
    obtain ⟨h1, h2⟩ := R1.par j w e
    exact ⟨by rw [List.getElem?_set_ne (Ne.symm hj)]; exact h1, h2⟩
theorem RepA.rev {c : RC} : ∀ {ds : List D} {vs : List V}, RepA c M H ds vs [] → RepA c M H ds.reverse vs.reverse []
  | [], vs, h => by rw [h.1]; exact ⟨rfl, rfl⟩
  | d :: ds, vs, ⟨v, vs', l1, l2, e, r1, r2, hl⟩ => by
    obtain ⟨e1, e2⟩ := List.append_eq_nil_iff.mp hl.symm
    subst e1 e2
    rw [e, List.reverse_cons, List.reverse_cons]
    have app : ∀ {as : List D} {us : List V}, RepA c M H as us [] → RepA c M H (as ++ [d]) (us ++ [v]) [] := by
      intro as
      induction as with
      | nil => intro us h; rw [h.1]; exact ⟨v, [], [], [], rfl, r1, ⟨rfl, rfl⟩, rfl⟩
      | cons a as ih =>
        rintro us ⟨u, us', k1, k2, e, q1, q2, hk⟩
        obtain ⟨z1, z2⟩ := List.append_eq_nil_iff.mp hk.symm
        subst z1 z2
        exact ⟨u, us' ++ [v], [], [], by rw [e]; rfl, q1, ih q2, rfl⟩
    exact app (RepA.rev r2)
theorem RepA.fzs {c : RC} : ∀ {ds : List D} {vs : List V}, RepA c M H ds vs [] → (∀ d ∈ ds, d.md = .fz) → Reps c M H .fz ds vs []
  | [], vs, h, _ => ⟨h.1, rfl⟩
  | d :: ds, vs, ⟨v, vs', l1, l2, e, r1, r2, hl⟩, hm => by
    obtain ⟨e1, e2⟩ := List.append_eq_nil_iff.mp hl.symm
    subst e1 e2
    exact ⟨v, vs', [], [], e, by rw [hm d (by simp)]; rfl, r1, RepA.fzs r2 fun x hx => hm x (by simp [hx]), rfl⟩
/-- the caught exception as data -/
theorem exc_rep (F : FC n G X) {c : Nat} {ds : List D} {dx : Option Addr} {a : Addr} (hxc : xcB G.sub c = true) (hlen : (G.xf c).length = ds.length) (hfz : ∀ d ∈ ds, d.md = .fz) (dm : Dom M H) (na : H a = none) (xr : XRep n.c n.xf M H c ds dx) :
    Rep n.c (layM M a .fz) (upd H a (exR (.ref (n.c.ca c)) dx a)) (excD G.xf c ds) (.ref a) [] := by
  have st : St0 M H (layM M a .fz) (upd H a (exR (.ref (n.c.ca c)) dx a)) := St0.lay dm na
  unfold XRep at xr
  have hc : n.c.xc c = true := (F.xcE c).trans hxc
  cases ds with
  | nil =>
    subst xr
    have e0 : G.xf c = [] := List.length_eq_zero_iff.mp hlen
    unfold excD
    rw [e0]
    exact ⟨a, 0, [], [], rfl, .inr ⟨hc, rfl, .inl ⟨rfl, layM_same, upd_same⟩⟩, rfl, ⟨rfl, rfl⟩, rfl⟩
  | cons y ds =>
    obtain ⟨d, vs, rfl, em, ra, ed⟩ := xr
    have hx0 : G.xf c ≠ [] := fun z => by rw [z] at hlen; cases hlen
    have hxf := F.xfE c hx0
    have hda : d ≠ a := fun z => by rw [z, na] at ed; cases ed
    have hvl : vs.length = (y :: ds).length := ra.len
    rw [hxf] at ed
    refine ⟨a, d, (((G.xf c).map n.c.an).zip vs).reverse, [], rfl, .inr ⟨hc, rfl, .inr ⟨⟨layM_same, upd_same⟩, (layM_ne hda).trans em, (upd_ne hda).trans ed⟩⟩, ?_, ?_, rfl⟩
    · rw [List.map_reverse, List.map_reverse]
      congr 1
      exact List.map_fst_zip (by rw [List.length_map, hlen, hvl]; exact Nat.le_refl _)
    · rw [List.map_reverse, show ((((G.xf c).map n.c.an).zip vs).map (·.2)) = vs from List.map_snd_zip (by rw [List.length_map, hlen, hvl]; exact Nat.le_refl _)]
      exact RepA.fzs (RepA.rev (ra.step dm st)) fun x hx => hfz x (List.mem_reverse.mp hx)
def hzs (n : Env') (X : Cx) : List ExceptHandler → Hd → List HZ
  | .ExceptHandler _ _ su _ :: hds, .cons c o _ hs => ⟨.ref (n.c.ca c), o, fun a D σ H => ∀ pn, WSs (X.suite a pn) su D σ H⟩ :: hzs n X hds hs
  | _, _ => []
def HdOk (n : Env') (G : GE) (X : Cx) (np : Nat) : List ExceptHandler → Hd → Prop
  | [], .nil => True
  | .ExceptHandler e no su _ :: hds, .cons c o cs hs => (∃ x p b₀ su', e = some (.Name x p) ∧ su = b₀ :: su' ∧ x = n.cn c ∧ n.okc c = true ∧ Gl X x ∧ (x == ("__debug__" : Str)) = false ∧ NmOk X no o ∧ ∀ a pn, SCs n G (X.suite a pn) np su cs) ∧ HdOk n G X np hds hs
  | _, _ => False
theorem hdz_of (F : FC n G X) : ∀ (hds : List ExceptHandler) (hs : Hd), HdOk n G X np hds hs → HdZ X hds (hzs n X hds hs)
  | [], .nil, _ => .nil
  | .ExceptHandler e no su pos :: hds, .cons c o cs hs, h => by
    obtain ⟨⟨x, p, b₀, su', rfl, rfl, hx, ok, hg, hdb, hn, hsu⟩, hr⟩ := h
    refine .cons (c := .ref (n.c.ca c)) ⟨hg, hdb, .inl (by rw [hx]; exact (F.cnm c ok).1)⟩ hn (fun a pn => ⟨fun pins s σ H D I hw => wss.run pins s σ H D I (hw pn)⟩) (hdz_of F hds hs hr)
  | [], .cons _ _ _ _, h => False.elim h
  | .ExceptHandler _ _ _ _ :: _, .nil, h => False.elim h
theorem hd_run (F : FS n G X) (hP : ∀ i v, P i = some v → i < np) {M3 : MM} {H3 : Hp} {c : Nat} {ds : List D} {dx : Option Addr} {De : Ends} (R : RelL n.c P M s σ H L) (st : St0 M H M3 H3) (xr : XRep n.c n.xf M3 H3 c ds dx) :
    ∀ (hds : List ExceptHandler) (hs : Hd), HdOk n G X np hds hs → PostS n P W M H De (execH G whileV np hs c ds s) → wZ X.K W De (hzs n X hds hs) (.ref (n.c.ca c)) dx σ H3
  | [], .nil, _, h => by
    unfold execH at h
    exact (show PostS n P W M H De (.ex c ds s) from h) M H σ L (StS.refl R.dom) R.pex dx M3 H3 st.x xr
  | [], .cons _ _ _ _, h, _ => False.elim h
  | .ExceptHandler _ _ _ _ :: _, .nil, h, _ => False.elim h
  | .ExceptHandler e no su pos :: hds, .cons hc o cs hs, hk, h => by
    obtain ⟨⟨x, p, b₀, su', rfl, rfl, hx, ok, hg, hdb, hn, hsu⟩, hr⟩ := hk
    unfold execH at h
    split at h
    · next hcc =>
      rw [Bool.and_eq_true] at hcc
      refine ⟨_, F.xm c hc hcc.1 hcc.2, fun hb a na pn => ?_, fun hb => ?_⟩
      · rw [if_pos hb] at h
        split at h
        · next hl =>
          simp only [Bool.and_eq_true, decide_eq_true_eq, List.all_eq_true] at hl
          have st4 : St0 M H (layM M3 a .fz) (upd H3 a (exR (.ref (n.c.ca c)) dx a)) := st.trans (St0.lay st.d na)
          have re := exc_rep F.toFC hcc.1 hl.1 hl.2 st.d na xr
          have R4 := R.step st4
          cases o with
          | none =>
            have h : PostS n P W M H De ((execs G whileV np cs s).hend none) := h
            refine hsu a pn (fun _ _ _ _ => False) takes_none5 P hP _ s σ _ L _ R4 ?_
            cases e : execs G whileV np cs s with
            | nx s2 => rw [e] at h; exact fun M' H' σ' L' q R' => (show PostS n P W M H De (.nx s2) from h) M' H' σ' L' ((st4.toS R.dom).trans q) R'
            | bk s2 => rw [e] at h; exact fun M' H' σ' L' q R' => (show PostS n P W M H De (.bk s2) from h) M' H' σ' L' ((st4.toS R.dom).trans q) R'
            | ct s2 => rw [e] at h; exact fun M' H' σ' L' q R' => (show PostS n P W M H De (.ct s2) from h) M' H' σ' L' ((st4.toS R.dom).trans q) R'
            | rt d s2 => rw [e] at h; exact fun M' H' σ' L' v l hc q R' => (show PostS n P W M H De (.rt d s2) from h) M' H' σ' L' v l hc ((st4.toS R.dom).trans q) R'
            | ex c2 ds2 s2 => rw [e] at h; exact False.elim h
            | stuck => rw [e] at h; exact False.elim h
          | some i =>
            have h : PostS n P W M H De (match (if np ≤ i ∧ i < s.length then some (s.set i (some (excD G.xf c ds))) else none : Option Sl) with
              | some s' => (execs G whileV np cs s').hend (some i)
              | none => .stuck) := h
            split at h
            · next s' hs' =>
              split at hs'
              · next hi =>
                cases hs'
                have hp : P i = none := by
                  cases q : P i with
                  | none => rfl
                  | some v => have := hP i v q; omega
                obtain ⟨L', R5, _⟩ := R4.put re .nil (fun _ z => nomatch z) hp (by simp [excD, D.md])
                refine hsu a pn (fun _ _ _ _ => False) takes_none5 P hP _ _ _ _ L' _ R5 ?_
                cases e : execs G whileV np cs (s.set i (some (excD G.xf c ds))) with
                | nx s2 => rw [e] at h; exact fun M' H' σ' L' q R' => (show PostS n P W M H De (.nx (s2.set i none)) from h) M' H' _ _ ((st4.toS R.dom).trans q) (R'.drop2 hp)
                | bk s2 => rw [e] at h; exact fun M' H' σ' L' q R' => (show PostS n P W M H De (.bk (s2.set i none)) from h) M' H' _ _ ((st4.toS R.dom).trans q) (R'.drop2 hp)
                | ct s2 => rw [e] at h; exact fun M' H' σ' L' q R' => (show PostS n P W M H De (.ct (s2.set i none)) from h) M' H' _ _ ((st4.toS R.dom).trans q) (R'.drop2 hp)
                | rt d s2 => rw [e] at h; exact fun M' H' σ' L' v l hc q R' => (show PostS n P W M H De (.rt d s2) from h) M' H' σ' L' v l hc ((st4.toS R.dom).trans q) R'
                | ex c2 ds2 s2 => rw [e] at h; exact False.elim h
                | stuck => rw [e] at h; exact False.elim h
              · cases hs'
            · exact False.elim h
        · exact False.elim h
      · rw [if_neg (by rw [hb]; simp)] at h
        exact hd_run F hP R st xr hds hs hr h
    · exact False.elim h
theorem sc_try (F : FS n G X) {b : List Cm} {hs : Hd} {body : List Stmt} {hds : List ExceptHandler} {pos : Pos} (hb : ∀ (pn : List (Addr × Obj)) (xe : Value → Shared → Prop), PassesOwn (model X.prog X.w) X.A X.env xe → SCAs n G (X.tr pn xe) np body b) (hh : HdOk n G X np hds hs) (h0 : hds ≠ []) :
    SC n G X np (.Try body hds [] [] pos) (.try_ b hs) := by
  intro W tk P hP M s σ H L De R h
  cases hds with
  | nil => exact absurd rfl h0
  | cons hd0 hds =>
    unfold exec at h
    refine ⟨_, ps_tryZ (tb := fun W' D σ H => ∀ pn xe, Takes (X.tr pn xe) W' → PassesOwn (model X.prog X.w) X.A X.env xe → WSs (X.tr pn xe) body D σ H) F.stk F.frm F.exn F.nd tk (fun W' pn xe tk' ps => ⟨fun pins s σ H D I hw => wss.run pins s σ H D I (hw pn xe tk' ps)⟩) (hdz_of F.toFC _ hs hh), fun pn xe tk' ps => ?_⟩
    refine hb pn xe ps _ tk' P hP M s σ H L De R ?_
    cases e : execs G whileV np b s with
    | ex c ds s' =>
      rw [e] at h
      intro dx M2 H2 sx xr
      have st : St0 M H M2 (unlk H H2) := ⟨fun a ha => ⟨unlk_of (sx.k a ha).1, (sx.k a ha).2⟩, fun a ha => (unlk_k1 a).there (sx.d a ha)⟩
      refine hd_run F hP R st ?_ _ hs hh h
      unfold XRep at xr ⊢
      cases ds with
      | nil => exact xr
      | cons y ds =>
        obtain ⟨d, vs, e1, em, ra, ed⟩ := xr
        refine ⟨d, vs, e1, em, ?_, (unlk_rest (fun o u z => by rw [ed] at z; cases z)).trans ed⟩
        have go : ∀ {ds : List D} {vs : List V}, RepA n.c M2 H2 ds vs [] → RepA n.c M2 (unlk H H2) ds vs [] := by
          intro ds
          induction ds with
          | nil => exact fun h => h
          | cons d ds ih =>
            rintro vs ⟨v, vs', l1, l2, e, r1, r2, hl⟩
            obtain ⟨z1, z2⟩ := List.append_eq_nil_iff.mp hl.symm
            subst z1 z2
            exact ⟨v, vs', [], [], e, Rep.mono d r1 fun a _ _ _ => ⟨rfl, unlk_k1 a, fun z => nomatch z⟩, ih r2, rfl⟩
        exact go ra
    | nx s' => rw [e] at h; exact h
    | bk s' => rw [e] at h; exact h
    | ct s' => rw [e] at h; exact h
    | rt d s' => rw [e] at h; exact h
    | stuck => rw [e] at h; exact h
end
end GS

namespace GS
open PySem PySem.Spec PyProof.Rows L2

/-! ## the checker of expressions -/
structure NT where
  fn : Nat → Str
  cn : Nat → Str
  an : Nat → Str
  gn : Nat → Str
  okf : Nat → Bool
  okc : Nat → Bool
  xf : Nat → List Nat
def Env'.nt (n : Env') : NT := ⟨n.fn, n.cn, n.c.an, n.gn, n.okf, n.okc, n.xf⟩
structure CT where
  nt : NT
  N : List Str
  sc : Scope
  fn : Str → Bool
  /-- not within an except suite -/
  calm : Bool
def visB (sc : Scope) (x : Str) : Bool := decide (sc.names.lookup x = some .local) || decide (sc.names.lookup x = some .cell) || decide (sc.names.lookup x = some .free)
def glB (sc : Scope) (x : Str) : Bool := decide (sc.names.lookup x = some .globalImplicit)
def notSp (x : Str) : Bool := !(x == ("__debug__" : Str)) && !(x == ("__classdict__" : Str))
def cstB : D → Const → Bool
  | .int i, .int j => decide (i = j)
  | .bl i, .bool j => decide (i = j)
  | .non, .none => true
  | .str x, .str y => decide (x = y)
  | _, _ => false
def isiT (nt : NT) : Isi → Option Str
  | .int => some "int"
  | .bool => some "bool"
  | .str => some "str"
  | .list => some "list"
  | .tuple => some "tuple"
  | .dict => some "dict"
  | .verr => some "ValueError"
  | .cls c => if nt.okc c = true then some (nt.cn c) else none
def ownOf (N : List Str) (is : List Nat) : List (Str × Nat) := is.map fun i => ((N[i]?).getD "", i)
def lineB (apos cpos : Pos) : Bool := apos.endLine == cpos.line
def CT.blk (K : CT) (scope : Scope) : CT := ⟨K.nt, K.N, relS scope K.sc, fun x => scope.names.lookup x == some .cell, K.calm⟩
mutual
def chE : Tm → Bool → CT → Expr → Bool
  | .var i, b, K, e => match e with
    | .Name x _ => decide (K.N[i]? = some x) && visB K.sc x && notSp x
    | _ => false
  | .cst d, b, K, e => match e with
    | .Constant c _ _ => cstB d c
    | _ => false
  | .glb g, b, K, e => match e with
    | .Name x _ => decide (x = K.nt.gn g) && !(decide (x = ("" : Str))) && glB K.sc x && notSp x
    | _ => false
  | .op o t u, b, K, e => match e with
    | .BinOp x op y _ => decide (bopOf o = op) && chE t false K x && chE u false K y
    | _ => false
  | .neg t, b, K, e => match e with
    | .UnaryOp .USub x _ => chE t false K x
    | _ => false
  | .cmp o t u, b, K, e => match e with
    | .Compare x [op] [y] _ => decide (copOf o = op) && okE y && chE t false K x && chE u false K y
    | _ => false
  | .chn o o' t u v, b, K, e => false
  | .and ts, b, K, e => match e with
    | .BoolOp .And es _ => !es.isEmpty && chEs ts b false K es
    | _ => false
  | .or ts, b, K, e => match e with
    | .BoolOp .Or es _ => !es.isEmpty && chEs ts b false K es
    | _ => false
  | .not t, b, K, e => match e with
    | .UnaryOp .Not x _ => chE t b K x
    | _ => false
  | .ife c t u, b, K, e => match e with
    | .IfExp x y z _ => !b && chE c true K x && chE t false K y && chE u false K z
    | _ => false
  | .fld t f, b, K, e => match e with
    | .Attribute o x _ => decide (x = K.nt.an f) && methForm o && chE t false K o
    | _ => false
  | .ix t u, b, K, e => match e with
    | .Subscript x y _ => okE y && chE t false K x && chE u false K y
    | _ => false
  | .slc t lo hi, b, K, e => match e with
    | .Subscript x (.Slice l h none _) _ => chE t false K x && chO lo K l && chO hi K h
    | _ => false
  | .lst ts, b, K, e => match e with
    | .List es _ => chEs ts false true K es
    | _ => false
  | .tup ts, b, K, e => match e with
    | .Tuple es _ _ => chEs ts false true K es
    | _ => false
  | .dct ks vs, b, K, e => match ks, vs, e with
    | [], [], .Dict [] [] _ => true
    | _, _, _ => false
  | .cal f ts, b, K, e => match e with
    | .Call (.Name x _) es [] _ => decide (x = K.nt.fn f) && K.nt.okf f && glB K.sc x && notSp x && !es.isEmpty && chEs ts false true K es && K.calm
    | _ => false
  | .mak c ts, b, K, e => match e with
    | .Call (.Name x _) es [] _ => decide (x = K.nt.cn c) && K.nt.okc c && glB K.sc x && notSp x && chEs ts false true K es && K.calm
    | _ => false
  | .met t m ts, b, K, e => match e with
    | .Call (.Attribute o mn apos) es [] pos => decide (mn = K.nt.an m) && methForm o && lineB apos pos && decide (es.length < 29) && chE t false K o && chEs ts false true K es && K.calm
    | _ => false
  | .blt k ts, b, K, e => match e with
    | .Call (.Name x _) es [] _ => bltF k && decide (x = bltN k) && glB K.sc x && !es.isEmpty && chEs ts false true K es && K.calm
    | _ => false
  | .bmt m t ts, b, K, e => match m, ts, e with
    | .vals, [], .Call (.Name x _) [.Call (.Attribute o mn apos) [] [] cpos] [] _ => decide (x = ("list" : Str)) && decide (mn = ("values" : Str)) && glB K.sc x && methForm o && lineB apos cpos && chE t false K o && K.calm
    | .get2, [u, v], .Call (.Attribute o mn apos) [x, y] [] pos => decide (mn = ("get" : Str)) && methForm o && lineB apos pos && okE x && okE y && chE t false K o && chE u false K x && chE v false K y
    | _, _, _ => false
  | .isi t k, b, K, e => match e with
    | .Call (.Name x _) [a, .Name y _] [] _ => decide (x = ("isinstance" : Str)) && glB K.sc x && glB K.sc y && notSp y && decide (isiT K.nt k = some y) && okE a && chE t false K a
    | _ => false
  | .cmpr t g it ifs, b, K, e => match e with
    | .ListComp elt [⟨tg, iter, es, 0⟩] scope _ => !b && blkC K.N K.sc scope (ownOf K.N (tgNames g)) && okE iter && chI it false K tg iter && tgC K.N (K.blk scope).sc (K.blk scope).fn g tg && decide (es.length ≤ 1) && chEs ifs true false (K.blk scope) es && chE t false (K.blk scope) elt && K.calm
    | _ => false
def chEs : List Tm → Bool → Bool → CT → List Expr → Bool
  | [], _, _, _, es => es.isEmpty
  | t :: ts, b, o, K, es => match es with
    | e :: es => (!o || okE e) && chE t b K e && chEs ts b o K es
    | [] => false
def chO : Option Tm → CT → Option Expr → Bool
  | none, _, e => e.isNone
  | some t, K, e => match e with
    | some e => chE t false K e
    | none => false
def chI : Itr → Bool → CT → Expr → Expr → Bool
  | .rng1 t, st, K, tg, e => match e with
    | .Call (.Name x _) [a] [] _ => decide (x = ("range" : Str)) && glB K.sc x && okE a && chE t false K a
    | _ => false
  | .rng2 t u, st, K, tg, e => match e with
    | .Call (.Name x _) [a, c] [] _ => decide (x = ("range" : Str)) && glB K.sc x && okE a && okE c && chE t false K a && chE u false K c
    | _ => false
  | .seq t, st, K, tg, e => chE t false K e
  | .enm t, st, K, tg, e => match tg, e with
    | .Tuple _ _ _, .Call (.Name x _) [a] [] _ => decide (x = ("enumerate" : Str)) && glB K.sc x && okE a && chE t false K a
    | _, _ => false
  | .zip t u, st, K, tg, e => match tg, e with
    | .Tuple _ _ _, .Call (.Name x _) [a, c] [] _ => decide (x = ("zip" : Str)) && glB K.sc x && okE a && okE c && chE t false K a && chE u false K c
    | _, _ => false
  | .keys t, st, K, tg, e => chE t false K e
  | .items t, st, K, tg, e => match tg, e with
    | .Tuple _ _ _, .Call (.Attribute o mn apos) [] [] pos => decide (mn = ("items" : Str)) && methForm o && lineB apos pos && chE t false K o
    | _, _ => false
  | .vals t, st, K, tg, e => match e with
    | .Call (.Attribute o mn apos) [] [] pos => decide (mn = ("values" : Str)) && methForm o && lineB apos pos && chE t false K o
    | _ => false
  | .rev t, st, K, tg, e => match e with
    | .Call (.Name x _) [a] [] _ => decide (x = ("reversed" : Str)) && glB K.sc x && okE a && chE t false K a
    | _ => false
  | .sgn t, st, K, tg, e => chE t false K e
end

theorem All2.imp {α β : Type} {R S : α → β → Prop} {as : List α} {bs : List β} (h : All2 R as bs) (f : ∀ a b, R a b → S a b) : All2 S as bs := by
  induction h with
  | nil => exact .nil
  | cons a _ ih => exact .cons (f _ _ a) ih
section
variable {n : Env'} {G : GE}
structure CtxOk (n : Env') (G : GE) (X : Cx) (K : CT) : Prop where
  F : FC n G X
  N : X.N = K.N
  sc : X.env.scope = K.sc
  fn : X.fn = K.fn
  nt : n.nt = K.nt
  calm : K.calm = true → X.calm = true
theorem CtxOk.blk {X : Cx} {K : CT} (C : CtxOk n G X K) (s : Shared) (H : Hp) (scope : Scope) (A : Addr) (cl : List (Str × Addr)) (fp : List Addr) : CtxOk n G (X.blk s H scope (compEnvC scope cl A X.env) fp) (K.blk scope) :=
  ⟨C.F.blk _ _ _ _ _, C.N, by show relS scope X.env.scope = _; rw [C.sc]; rfl, rfl, C.nt, C.calm⟩
theorem vis_of {sc : Scope} {x : Str} (h : visB sc x = true) : Vis sc x := by
  unfold visB at h
  simp only [Bool.or_eq_true, decide_eq_true_eq] at h
  rcases h with (h | h) | h
  · exact .inl h
  · exact .inr (.inl h)
  · exact .inr (.inr h)
theorem gl_of {X : Cx} {K : CT} {x : Str} (e : X.env.scope = K.sc) (h : glB K.sc x = true) : Gl X x := by
  unfold glB at h
  rw [decide_eq_true_eq, ← e] at h
  exact h
theorem sp_of {x : Str} (h : notSp x = true) : (x == ("__debug__" : Str)) = false ∧ (x == ("__classdict__" : Str)) = false := by
  unfold notSp at h
  simpa using h
def Done (n : Env') (G : GE) (X : Cx) (b : Bool) (e : Expr) (t : Tm) : Prop := if b = true then ST n G X e t else SE n G X e t
theorem done_plain {X : Cx} {b : Bool} {e : Expr} {t : Tm} (F : FX n X) (hp : plainT e = true) (h : SE n G X e t) : Done n G X b e t := by
  unfold Done
  cases b with
  | false => exact h
  | true => exact st_plain F hp h
theorem ownOf_snd (N : List Str) : ∀ is : List Nat, (ownOf N is).map (·.2) = is
  | [] => rfl
  | i :: is => by unfold ownOf; simp only [List.map_cons]; exact congrArg (i :: ·) (ownOf_snd N is)
theorem isi_name {n : Env'} {k : Isi} {y : Str} (h : isiT n.nt k = some y) : y = isiName n k ∧ ∀ c, k = .cls c → n.okc c = true := by
  cases k with
  | cls c =>
    have h : (if n.nt.okc c = true then some (n.nt.cn c) else none) = some y := h
    split at h
    · next hc => cases h; exact ⟨rfl, fun c' e => by cases e; exact hc⟩
    · cases h
  | _ => cases h; exact ⟨rfl, fun c e => by cases e⟩
theorem se_glb {X : Cx} (F : FC n G X) {g : Nat} {x : Str} {pos : Pos} (hx : x = n.gn g) (h0 : ¬ x = ("" : Str)) (hg : Gl X x) (hdb : (x == ("__debug__" : Str)) = false) : SE n G X (.Name x pos) (.glb g) := by
  intro W tk M s σ H Q R h
  unfold evalE at h
  subst hx
  obtain ⟨u, v, hm, r, hv⟩ := F.glb g h0
  refine ⟨_, pe_glob hg hm r hdb, ?_⟩
  refine PE1.now (d := G.glob g) h R.dom ?_
  cases e : G.glob g <;> rw [e] at hv <;> first | (cases hv; exact ⟨rfl, rfl⟩) | cases hv
mutual
theorem ceE : ∀ (t : Tm) (b : Bool) (K : CT) (e : Expr), chE t b K e = true → ∀ X, CtxOk n G X K → Done n G X b e t
  | .var i, b, K, e, h, X, C => by
    unfold chE at h
    split at h
    · simp only [Bool.and_eq_true, decide_eq_true_eq] at h
      obtain ⟨h1, h2⟩ := sp_of h.2
      exact done_plain C.F.toFX rfl (se_var (by rw [C.N]; exact h.1.1) (by rw [C.sc]; exact vis_of h.1.2) h1 h2)
    · cases h
  | .cst d, b, K, e, h, X, C => by
    unfold chE at h
    split at h
    · unfold cstB at h
      split at h
      · simp only [decide_eq_true_eq] at h; subst h; exact done_plain C.F.toFX rfl se_int
      · simp only [decide_eq_true_eq] at h; subst h; exact done_plain C.F.toFX rfl se_bl
      · exact done_plain C.F.toFX rfl se_non
      · simp only [decide_eq_true_eq] at h; subst h; exact done_plain C.F.toFX rfl se_str
      · cases h
    · cases h
  | .glb g, b, K, e, h, X, C => by
    unfold chE at h
    split at h
    · simp only [Bool.and_eq_true, decide_eq_true_eq, Bool.not_eq_true', decide_eq_false_iff_not] at h
      obtain ⟨⟨⟨h1, h2⟩, h3⟩, h4⟩ := h
      exact done_plain C.F.toFX rfl (se_glb C.F (by rw [h1, ← C.nt]; rfl) h2 (gl_of C.sc h3) (sp_of h4).1)
    · cases h
  | .op o t u, b, K, e, h, X, C => by
    unfold chE at h
    split at h
    · simp only [Bool.and_eq_true, decide_eq_true_eq] at h
      exact done_plain C.F.toFX rfl (se_op h.1.1 (ceE t false K _ h.1.2 X C) (ceE u false K _ h.2 X C))
    · cases h
  | .neg t, b, K, e, h, X, C => by
    unfold chE at h
    split at h
    · exact done_plain C.F.toFX rfl (se_neg (ceE t false K _ h X C))
    · cases h
  | .cmp o t u, b, K, e, h, X, C => by
    unfold chE at h
    split at h
    · simp only [Bool.and_eq_true, decide_eq_true_eq] at h
      have h1 := ceE t false K _ h.1.2 X C
      have h2 := ceE u false K _ h.2 X C
      have h3 := okE_in h.1.1.2
      cases b with
      | false => exact se_cmp C.F.toFX h.1.1.1 (h3 _) h1 h2
      | true => exact st_cmp C.F.toFX h.1.1.1 (h3 _) h1 h2
    · cases h
  | .chn o o' t u v, b, K, e, h, X, C => by unfold chE at h; cases h
  | .and ts, b, K, e, h, X, C => by
    unfold chE at h
    split at h
    · simp only [Bool.and_eq_true, Bool.not_eq_true'] at h
      have h0 : ∀ {es : List Expr}, es.isEmpty = false → es ≠ [] := fun h e => by rw [e] at h; cases h
      have hA := ceEs ts b false K _ h.2 X C
      cases b with
      | false => exact se_and (hA.imp fun _ _ z => z.2) (h0 h.1)
      | true => exact st_and (hA.imp fun _ _ z => z.2) (h0 h.1)
    · cases h
  | .or ts, b, K, e, h, X, C => by
    unfold chE at h
    split at h
    · simp only [Bool.and_eq_true, Bool.not_eq_true'] at h
      have h0 : ∀ {es : List Expr}, es.isEmpty = false → es ≠ [] := fun h e => by rw [e] at h; cases h
      have hA := ceEs ts b false K _ h.2 X C
      cases b with
      | false => exact se_or (hA.imp fun _ _ z => z.2) (h0 h.1)
      | true => exact st_or (hA.imp fun _ _ z => z.2) (h0 h.1)
    · cases h
  | .not t, b, K, e, h, X, C => by
    unfold chE at h
    split at h
    · have h1 := ceE t b K _ h X C
      cases b with
      | false => exact se_not h1
      | true => exact st_not h1
    · cases h
  | .ife c t u, b, K, e, h, X, C => by
    unfold chE at h
    split at h
    · simp only [Bool.and_eq_true, Bool.not_eq_true'] at h
      obtain ⟨⟨⟨hb, h1⟩, h2⟩, h3⟩ := h
      subst hb
      exact se_ife (ceE c true K _ h1 X C) (ceE t false K _ h2 X C) (ceE u false K _ h3 X C)
    · cases h
  | .fld t f, b, K, e, h, X, C => by
    unfold chE at h
    split at h
    · simp only [Bool.and_eq_true, decide_eq_true_eq] at h
      exact done_plain C.F.toFX rfl (se_fld C.F (by rw [h.1.1, ← C.nt]; rfl) (ceE t false K _ h.2 X C) h.1.2)
    · cases h
  | .ix t u, b, K, e, h, X, C => by
    unfold chE at h
    split at h
    · simp only [Bool.and_eq_true] at h
      exact done_plain C.F.toFX rfl (se_ix C.F.toFX (ceE t false K _ h.1.2 X C) (ceE u false K _ h.2 X C) h.1.1)
    · cases h
  | .slc t lo hi, b, K, e, h, X, C => by
    unfold chE at h
    split at h
    · simp only [Bool.and_eq_true] at h
      exact done_plain C.F.toFX rfl (se_slc C.F.toFX (ceE t false K _ h.1.1 X C) (ceO lo K _ h.1.2 X C) (ceO hi K _ h.2 X C))
    · cases h
  | .lst ts, b, K, e, h, X, C => by
    unfold chE at h
    split at h
    · exact done_plain C.F.toFX rfl (se_lst ((ceEs ts false true K _ h X C).imp fun _ _ z => ⟨z.1 rfl, z.2⟩))
    · cases h
  | .tup ts, b, K, e, h, X, C => by
    unfold chE at h
    split at h
    · exact done_plain C.F.toFX rfl (se_tup ((ceEs ts false true K _ h X C).imp fun _ _ z => ⟨z.1 rfl, z.2⟩))
    · cases h
  | .dct ks vs, b, K, e, h, X, C => by
    unfold chE at h
    split at h
    · exact done_plain C.F.toFX rfl se_dct0
    · cases h
  | .cal f ts, b, K, e, h, X, C => by
    unfold chE at h
    split at h
    · simp only [Bool.and_eq_true, decide_eq_true_eq, Bool.not_eq_true'] at h
      obtain ⟨⟨⟨⟨⟨⟨h1, h2⟩, h3⟩, h4⟩, h5⟩, h6⟩, hk⟩ := h
      have hA := (ceEs ts false true K _ h6 X C).imp fun _ _ z => (⟨z.1 rfl, z.2⟩ : OkSE n G X _ _)
      exact done_plain C.F.toFX rfl (se_cal C.F (C.calm hk) (by rw [h1, ← C.nt]; rfl) (by rw [← C.nt] at h2; exact h2) (gl_of C.sc h3) (sp_of h4).1 hA fun e => by rw [e] at h5; cases h5)
    · cases h
  | .mak c ts, b, K, e, h, X, C => by
    unfold chE at h
    split at h
    · simp only [Bool.and_eq_true, decide_eq_true_eq] at h
      obtain ⟨⟨⟨⟨⟨h1, h2⟩, h3⟩, h4⟩, h6⟩, hk⟩ := h
      have hA := (ceEs ts false true K _ h6 X C).imp fun _ _ z => (⟨z.1 rfl, z.2⟩ : OkSE n G X _ _)
      exact done_plain C.F.toFX rfl (se_mak C.F (C.calm hk) (by rw [h1, ← C.nt]; rfl) (by rw [← C.nt] at h2; exact h2) (gl_of C.sc h3) (sp_of h4).1 hA)
    · cases h
  | .met t m ts, b, K, e, h, X, C => by
    unfold chE at h
    split at h
    · simp only [Bool.and_eq_true, decide_eq_true_eq] at h
      obtain ⟨⟨⟨⟨⟨⟨h1, h2⟩, h3⟩, h4⟩, h5⟩, h6⟩, hk⟩ := h
      have hA := (ceEs ts false true K _ h6 X C).imp fun _ _ z => (⟨z.1 rfl, z.2⟩ : OkSE n G X _ _)
      exact done_plain C.F.toFX rfl (se_met C.F (C.calm hk) (by rw [h1, ← C.nt]; rfl) (ceE t false K _ h5 X C) hA h4 h3 h2)
    · cases h
  | .blt k ts, b, K, e, h, X, C => by
    unfold chE at h
    split at h
    · simp only [Bool.and_eq_true, decide_eq_true_eq, Bool.not_eq_true'] at h
      obtain ⟨⟨⟨⟨⟨h1, h2⟩, h3⟩, h5⟩, h6⟩, hk⟩ := h
      have hA := (ceEs ts false true K _ h6 X C).imp fun _ _ z => (⟨z.1 rfl, z.2⟩ : OkSE n G X _ _)
      refine done_plain C.F.toFX rfl (se_blt ⟨C.F.toFX, C.calm hk⟩ h1 h2 (gl_of C.sc h3) ?_ hA fun e => by rw [e] at h5; cases h5)
      subst h2
      exact C.F.free _ (by cases k <;> first | (cases h1; done) | simp [bltN])
    · cases h
  | .bmt m t ts, b, K, e, h, X, C => by
    unfold chE at h
    split at h
    · simp only [Bool.and_eq_true, decide_eq_true_eq] at h
      obtain ⟨⟨⟨⟨⟨⟨h1, h2⟩, h3⟩, h4⟩, h5⟩, h6⟩, hk⟩ := h
      subst h1 h2
      exact done_plain C.F.toFX rfl (se_lvals ⟨C.F.toFX, C.calm hk⟩ (gl_of C.sc h3) (C.F.free _ (by simp)) (ceE t false K _ h6 X C) h4 h5)
    · next u v o mn apos x y pos =>
      simp only [Bool.and_eq_true, decide_eq_true_eq] at h
      obtain ⟨⟨⟨⟨⟨⟨⟨h1, h2⟩, h3⟩, h4⟩, h5⟩, h6⟩, h7⟩, h8⟩ := h
      subst h1
      exact done_plain C.F.toFX rfl (se_get2 C.F.toFX (ceE t false K _ h6 X C) (ceE u false K _ h7 X C) (ceE v false K _ h8 X C) h2 h3 h4 h5)
    · cases h
  | .isi t k, b, K, e, h, X, C => by
    unfold chE at h
    split at h
    · simp only [Bool.and_eq_true, decide_eq_true_eq] at h
      obtain ⟨⟨⟨⟨⟨⟨h1, h2⟩, h3⟩, h4⟩, h5⟩, h6⟩, h7⟩ := h
      subst h1
      rw [← C.nt] at h5
      obtain ⟨q1, q2⟩ := isi_name h5
      exact done_plain C.F.toFX rfl (se_isi C.F q2 q1 (gl_of C.sc h2) (gl_of C.sc h3) (sp_of h4).1 h6 (ceE t false K _ h7 X C))
    · cases h
  | .cmpr t g it ifs, b, K, e, h, X, C => by
    unfold chE at h
    split at h
    · next elt tg iter es scope pos =>
      simp only [Bool.and_eq_true, decide_eq_true_eq, Bool.not_eq_true'] at h
      obtain ⟨⟨⟨⟨⟨⟨⟨⟨hb, h1⟩, h2⟩, h3⟩, h4⟩, h5⟩, h6⟩, h7⟩, hk⟩ := h
      subst hb
      refine se_cmpr C.F (C.calm hk) (own := ownOf K.N (tgNames g)) (ownOf_snd _ _) (by rw [C.N, C.sc]; exact h1) (ceI it false K tg iter h3 X C) h2 (fun s H A cl fp => ?_) (fun s H A cl fp => ?_) (fun s H A cl fp => ceE t false (K.blk scope) elt h7 _ (C.blk s H scope A cl fp))
      · have C' := C.blk s H scope A cl fp
        rw [C'.N, C'.sc, C'.fn]; exact h4
      · have hA := ceEs ifs true false (K.blk scope) es h6 _ (C.blk s H scope A cl fp)
        cases hA with
        | nil => exact ptq_nil
        | cons z hr =>
          cases hr with
          | nil => exact ptq_one takes_false z.2
          | cons _ _ => simp at h5
    · cases h
theorem ceEs : ∀ (ts : List Tm) (b o : Bool) (K : CT) (es : List Expr), chEs ts b o K es = true → ∀ X, CtxOk n G X K → All2 (fun e t => (o = true → okE e = true) ∧ Done n G X b e t) es ts
  | [], b, o, K, es, h, X, C => by
    unfold chEs at h
    cases es with
    | nil => exact .nil
    | cons e es => cases h
  | t :: ts, b, o, K, es, h, X, C => by
    unfold chEs at h
    cases es with
    | nil => cases h
    | cons e es =>
      simp only [Bool.and_eq_true] at h
      exact .cons ⟨fun ho => by subst ho; simpa using h.1.1, ceE t b K e h.1.2 X C⟩ (ceEs ts b o K es h.2 X C)
theorem ceO : ∀ (t : Option Tm) (K : CT) (e : Option Expr), chO t K e = true → ∀ X, CtxOk n G X K → SO n G X e t
  | none, K, e, h, X, C => by
    unfold chO at h
    cases e with
    | none => trivial
    | some e => cases h
  | some t, K, e, h, X, C => by
    unfold chO at h
    cases e with
    | none => cases h
    | some e => exact ceE t false K e h X C
theorem ceI : ∀ (it : Itr) (st : Bool) (K : CT) (tg e : Expr), chI it st K tg e = true → ∀ X, CtxOk n G X K → SI n G X st tg e it
  | .rng1 t, st, K, tg, e, h, X, C => by
    unfold chI at h
    split at h
    · simp only [Bool.and_eq_true, decide_eq_true_eq] at h
      obtain ⟨⟨⟨h1, h2⟩, h3⟩, h4⟩ := h
      subst h1
      exact si_rng1 C.F (gl_of C.sc h2) (ceE t false K _ h4 X C) h3
    · cases h
  | .rng2 t u, st, K, tg, e, h, X, C => by
    unfold chI at h
    split at h
    · simp only [Bool.and_eq_true, decide_eq_true_eq] at h
      obtain ⟨⟨⟨⟨⟨h1, h2⟩, h3⟩, h4⟩, h5⟩, h6⟩ := h
      subst h1
      exact si_rng2 C.F (gl_of C.sc h2) (ceE t false K _ h5 X C) (ceE u false K _ h6 X C) h3 h4
    · cases h
  | .seq t, st, K, tg, e, h, X, C => by
    unfold chI at h
    exact si_seq C.F (ceE t false K _ h X C)
  | .enm t, st, K, tg, e, h, X, C => by
    unfold chI at h
    split at h
    · simp only [Bool.and_eq_true, decide_eq_true_eq] at h
      obtain ⟨⟨⟨h1, h2⟩, h3⟩, h4⟩ := h
      subst h1
      exact si_enm C.F (gl_of C.sc h2) (ceE t false K _ h4 X C) h3
    · cases h
  | .zip t u, st, K, tg, e, h, X, C => by
    unfold chI at h
    split at h
    · simp only [Bool.and_eq_true, decide_eq_true_eq] at h
      obtain ⟨⟨⟨⟨⟨h1, h2⟩, h3⟩, h4⟩, h5⟩, h6⟩ := h
      subst h1
      exact si_zip C.F (gl_of C.sc h2) (ceE t false K _ h5 X C) (ceE u false K _ h6 X C) h3 h4
    · cases h
  | .keys t, st, K, tg, e, h, X, C => by
    unfold chI at h
    exact si_keys C.F (ceE t false K _ h X C)
  | .items t, st, K, tg, e, h, X, C => by
    unfold chI at h
    split at h
    · simp only [Bool.and_eq_true, decide_eq_true_eq] at h
      obtain ⟨⟨⟨h1, h2⟩, h3⟩, h4⟩ := h
      subst h1
      exact si_items C.F (ceE t false K _ h4 X C) h2 h3
    · cases h
  | .vals t, st, K, tg, e, h, X, C => by
    unfold chI at h
    split at h
    · simp only [Bool.and_eq_true, decide_eq_true_eq] at h
      obtain ⟨⟨⟨h1, h2⟩, h3⟩, h4⟩ := h
      subst h1
      exact si_vals C.F (ceE t false K _ h4 X C) h2 h3
    · cases h
  | .rev t, st, K, tg, e, h, X, C => by
    unfold chI at h
    split at h
    · simp only [Bool.and_eq_true, decide_eq_true_eq] at h
      obtain ⟨⟨⟨h1, h2⟩, h3⟩, h4⟩ := h
      subst h1
      exact si_rev C.F (gl_of C.sc h2) (ceE t false K _ h4 X C) h3
    · cases h
  | .sgn t, st, K, tg, e, h, X, C => by
    unfold chI at h
    exact si_sgn (ceE t false K _ h X C)
end
end
end GS

namespace GS
open PySem PySem.Spec PyProof.Rows L2

/-! ## C.__init__(self, ..) within an __init__ -/
section
variable {n : Env'} {G : GE} {X : Cx} {W : WX} {M M0 M1 M' M2 : MM} {H H0 H1 H' H2 : Hp} {s : Sl} {σ : L2.St} {P : Nat → Option V} {L : Nat → List Addr} {np : Nat} {Dd : Ends}
theorem pe_baseW {C f : Addr} {k : Nat} {fd : FuncData} {ps : List Str} {sp : Sp} {dvs : List V} {ds : List Value} {x : Str} {p apos pos : Pos} {e : Expr} {es : List Expr} {t : TA} (tk : Takes X W)
    (hg : Gl X x) (hmg : X.mg x = some (.ref C)) (hdb : (x == ("__debug__" : Str)) = false) (B : BInit X.K C f) (F : FnOk X.prog X.w X.K X.mg X.base (L2.CX X.prog X.w) k f fd ps sp) (hr : Room k X.A) (hb : Binds X.K fd ps ds) (hd : Vals dvs ds) (ha : PA X (e :: es) t)
    (ho : ∀ q ∈ e :: es, okE q = true) (hl : (e :: es).length < 29) (hln : (apos.endLine == pos.line) = true) : PE X (.Call (.Attribute (.Name x p) "__init__" apos) (e :: es) [] pos) (tCallW W sp dvs t) := by
  refine ⟨fun pins sh σ H Q I h => ?_⟩
  refine PySem.W.methodCall_KW (pl := plainOf (.Name x p) X.env) (ld_glob I hg hmg ?_ hdb) (ev_meth rfl ho hl hln)
  refine PySem.W.method_cls I.kIn B.ga (PySem.W.cls_value I.kIn B.rd B.at_ rfl ?_)
  have I' := I.tok (sh.toks + 1)
  refine PySem.W.callWith_K (first := []) (h₀ := X.base) I.ok.mod.kin B.kp (thn (ha.run pos pins _ σ H _ I' h) fun us s1 ⟨vs, H1, I1, r, q⟩ => ⟨I1.kIn, run_fnW tk F hr hb hd I1 r q⟩) (okE_star (ho e (by simp)) _ _) (noStar fun x hx => ho x (by simp [hx]))
/-- some addresses hidden -/
def hideM (M : MM) (K : List Addr) : MM := fun a => if a ∈ K then none else M a
theorem hideM_in {K : List Addr} {a : Addr} (h : a ∈ K) : hideM M K a = none := if_pos h
theorem hideM_out {K : List Addr} {a : Addr} (h : a ∉ K) : hideM M K a = M a := if_neg h
/-- the first slot hidden -/
theorem RelL.hide (R : RelL n.c P M s σ H L) : RelL n.c (fun i => if i = 0 then none else P i) (hideM M (L 0)) (s.set 0 none) σ H (fun j => if j = 0 then [] else L j) := by
  have ne : ∀ {j a}, j ≠ 0 → a ∈ L j → a ∉ L 0 := fun {j a} hj h z => hj (R.dj j 0 a h z)
  refine ⟨by simp [R.len], fun a ha => R.dom a (fun z => ha ?_), fun j x e => ?_, fun j => ?_, fun j k a h1 h2 => ?_, fun j a h => ?_, fun j w e => ?_⟩
  · by_cases q : a ∈ L 0
    · exact hideM_in q
    · rw [hideM_out q]; exact z
  · by_cases hj : j = 0
    · subst hj
      by_cases hi : 0 < s.length
      · rw [List.getElem?_set_self hi] at e; cases e
      · rw [List.getElem?_eq_none (by rw [List.length_set]; omega)] at e; cases e
    · rw [List.getElem?_set_ne (Ne.symm hj)] at e
      rw [if_neg hj]
      obtain ⟨v, e1, r, hm⟩ := R.at_ j x e
      refine ⟨v, e1, Rep.mono x r fun a h1 h2 h3 => ⟨?_, .inl rfl, fun _ => rfl⟩, hm⟩
      refine hideM_out fun z => ?_
      rcases h2 (R.ow 0 a z).1 with q | q
      · exact ne hj q z
      · exact hm q
  · skip
    split
    · exact .nil
    · exact R.nd j
  · skip
    split at h1
    · cases h1
    · split at h2
      · cases h2
      · exact R.dj j k a h1 h2
  · skip
    split at h
    · cases h
    · next hj =>
      obtain ⟨h1, h2⟩ := R.ow j a h
      exact ⟨(hideM_out (ne hj h)).trans h1, h2⟩
  · skip
    split at e
    · cases e
    · next hj =>
      obtain ⟨h1, x, h2, h3⟩ := R.par j w e
      exact ⟨h1, x, by rw [List.getElem?_set_ne (Ne.symm hj)]; exact h2, h3⟩
/-- what the called __init__ sees -/
def initM (M1 : MM) (K l : List Addr) : MM := fun a => if a ∈ K then some .own else lendM (frzM M1 l) a
/-- the modes behind it -/
def behM (M : MM) (K : List Addr) (M2 : MM) : MM := fun a => if M a = some .own ∧ a ∉ K then some .own else M2 a
end
section
variable {n : Env'} {M M1 M2 : MM} {H H1 H2 : Hp} {s : Sl} {σ : L2.St} {P : Nat → Option V} {L : Nat → List Addr} {l : List Addr}
/-- all that is known around such a call -/
structure AtInit (n : Env') (P : Nat → Option V) (M : MM) (s : Sl) (σ : L2.St) (H : Hp) (L : Nat → List Addr) (M1 : MM) (H1 : Hp) (l : List Addr) : Prop where
  R : RelL n.c P M s σ H L
  st : St0 (hideM M (L 0)) H M1 H1
  fr : ∀ a ∈ l, H a = none
  ow : ∀ a ∈ l, M1 a = some .own ∧ H1 a ≠ none
theorem AtInit.m1 (A : AtInit n P M s σ H L M1 H1 l) {a : Addr} (h : H a ≠ none) : H1 a = H a ∧ M1 a = hideM M (L 0) a := A.st.k a h
theorem AtInit.in0 (A : AtInit n P M s σ H L M1 H1 l) {a : Addr} (h : a ∈ L 0) : M a = some .own ∧ H a ≠ none ∧ M1 a = none ∧ a ∉ l := by
  obtain ⟨h1, h2⟩ := A.R.ow 0 a h
  exact ⟨h1, h2, (A.m1 h2).2.trans (hideM_in h), fun z => h2 (A.fr a z)⟩
theorem AtInit.old (A : AtInit n P M s σ H L M1 H1 l) {a : Addr} (h : H a ≠ none) (h0 : a ∉ L 0) : initM M1 (L 0) l a = if M a = some .own then some .br else M a := by
  have e := (A.m1 h).2
  rw [hideM_out h0] at e
  have hl : a ∉ l := fun z => h (A.fr a z)
  unfold initM
  rw [if_neg h0]
  split
  · next ho => exact lendM_own (by rw [frzM_out hl, e, ho])
  · next ho => rw [lendM_ne (by rw [frzM_out hl, e]; exact ho), frzM_out hl, e]
/-- behind it: old places that are no part of the object -/
theorem AtInit.beh (A : AtInit n P M s σ H L M1 H1 l) (k : ∀ a, H1 a ≠ none → initM M1 (L 0) l a ≠ some .own → KeepX H1 H2 a ∧ M2 a = initM M1 (L 0) l a) {a : Addr} (h : H a ≠ none) (h0 : a ∉ L 0) : KeepX H H2 a ∧ behM M (L 0) M2 a = M a := by
  have e := A.old h h0
  obtain ⟨e1, _⟩ := A.m1 h
  have hn : initM M1 (L 0) l a ≠ some .own := by rw [e]; split <;> simp_all
  obtain ⟨k1, k2⟩ := k a (by rw [e1]; exact h) hn
  refine ⟨KeepX.trans (.inl e1) k1, ?_⟩
  unfold behM
  split
  · next q => exact q.1.symm
  · next q =>
    have : M a ≠ some .own := fun z => q ⟨z, h0⟩
    rw [k2, e, if_neg this]
theorem AtInit.brd (A : AtInit n P M s σ H L M1 H1 l) (k : ∀ a, H1 a ≠ none → initM M1 (L 0) l a ≠ some .own → KeepX H1 H2 a ∧ M2 a = initM M1 (L 0) l a) {a : Addr} (h : M a = some .own) (h0 : a ∉ L 0) : M2 a = some .br := by
  have hh := A.R.dom a (by rw [h]; simp)
  have e := A.old hh h0
  rw [if_pos h] at e
  obtain ⟨e1, _⟩ := A.m1 hh
  rw [(k a (by rw [e1]; exact hh) (by rw [e]; simp)).2, e]
theorem AtInit.stS (A : AtInit n P M s σ H L M1 H1 l) (k : ∀ a, H1 a ≠ none → initM M1 (L 0) l a ≠ some .own → KeepX H1 H2 a ∧ M2 a = initM M1 (L 0) l a) (o : ∀ a, initM M1 (L 0) l a = some .own → M2 a = some .own ∨ M2 a = some .fz) (d : Dom M2 H2) {H3 : Hp} (h3 : ∀ a, H a ≠ none → a ∉ L 0 → H3 a = H a) (h4 : ∀ a, H2 a ≠ none → H3 a ≠ none) :
    StS M H (behM M (L 0) M2) H3 := by
  refine ⟨fun a ha hm => ?_, fun a e => ?_, fun a ha => ?_⟩
  · have h0 : a ∉ L 0 := fun z => hm (A.in0 z).1
    exact ⟨h3 a ha h0, (A.beh k ha h0).2⟩
  · by_cases h0 : a ∈ L 0
    · unfold behM
      rw [if_neg (fun z => z.2 h0)]
      exact o a (if_pos h0)
    · exact .inl (if_pos ⟨e, h0⟩)
  · by_cases q : M a = some .own ∧ a ∉ L 0
    · have hh := A.R.dom a (by rw [q.1]; simp)
      rw [h3 a hh q.2]; exact hh
    · unfold behM at ha
      rw [if_neg q] at ha
      exact h4 a (d a ha)
/-- the other slots behind it -/
theorem AtInit.slots (A : AtInit n P M s σ H L M1 H1 l) (k : ∀ a, H1 a ≠ none → initM M1 (L 0) l a ≠ some .own → KeepX H1 H2 a ∧ M2 a = initM M1 (L 0) l a) {H3 : Hp} (h3 : ∀ a, H a ≠ none → a ∉ L 0 → H3 a = H a) {j : Nat} {x : D} (hj : j ≠ 0) (e : s[j]? = some (some x)) :
    ∃ v, σ[j]? = some (some v) ∧ Rep n.c (behM M (L 0) M2) H3 x v (L j) ∧ x.md ≠ .vw := by
  obtain ⟨v, e1, r, hm⟩ := A.R.at_ j x e
  refine ⟨v, e1, Rep.mono x r fun a ha h1 _ => ?_, hm⟩
  have h0 : a ∉ L 0 := fun z => by
    rcases h1 (A.in0 z).1 with q | q
    · exact hj (A.R.dj j 0 a q z)
    · exact hm q
  have hh := A.R.dom a ha
  exact ⟨(A.beh k hh h0).2, .inl (h3 a hh h0), fun _ => h3 a hh h0⟩
/-- own or frozen trees made by the call -/
theorem AtInit.rep (A : AtInit n P M s σ H L M1 H1 l) (k : ∀ a, H1 a ≠ none → initM M1 (L 0) l a ≠ some .own → KeepX H1 H2 a ∧ M2 a = initM M1 (L 0) l a) {d : D} {v : V} {l1 : List Addr} (r : Rep n.c M2 H2 d v l1) (hc : d.cl = true) {H3 : Hp} (h3 : ∀ a, M2 a ≠ none → M2 a ≠ some .br → H3 a = H2 a) : Rep n.c (behM M (L 0) M2) H3 d v l1 :=
  Rep.mono d r fun a ha h1 h2 => by
    have hb : M2 a ≠ some .br := fun q => by
      have z := h2 q
      rcases cl_md hc with y | y <;> (rw [y] at z; simp at z)
    have e : ¬ (M a = some .own ∧ a ∉ L 0) := fun ⟨e1, e2⟩ => hb (A.brd k e1 e2)
    have e3 := h3 a ha hb
    exact ⟨by unfold behM; rw [if_neg e], .inl e3, fun _ => e3⟩
theorem AtInit.reps (A : AtInit n P M s σ H L M1 H1 l) (k : ∀ a, H1 a ≠ none → initM M1 (L 0) l a ≠ some .own → KeepX H1 H2 a ∧ M2 a = initM M1 (L 0) l a) : ∀ {ds : List D} {vs : List V} {l1 : List Addr}, RepA n.c M2 H2 ds vs l1 → ds.all D.cl = true → RepA n.c (behM M (L 0) M2) H2 ds vs l1
  | [], _, _, h, _ => h
  | d :: ds, vs, l1, ⟨v, vs', l2, l3, e, r1, r2, hl⟩, hc => by
    rw [List.all_cons, Bool.and_eq_true] at hc
    exact ⟨v, vs', l2, l3, e, A.rep k r1 hc.1 (fun _ _ _ => rfl), A.reps k r2 hc.2, hl⟩
/-- the promise of the call -/
theorem ini_spec {W : WX} {De : Ends} {ds : List D} {vs : List V} {r : RO} {c : Nat} {fs : List Nat} {xs : List D} {v : V} (A : AtInit n P M s σ H L M1 H1 l) (ra : RepA n.c M1 H1 ds vs l) (hs : s[0]? = some (some (.ins .own c fs xs))) (hv : σ[0]? = some (some v)) (rv : Rep n.c M H (.ins .own c fs xs) v (L 0))
    (h : PostS n P W M H De (match (generalizing := false) r with
        | .ret _ (some d :: _) => if d.md = .own then .nx (s.set 0 (some d)) else .stuck
        | .ex c ds _ => .ex c ds (s.set 0 none)
        | _ => .stuck)) :
    SpC n r (.ins .own c fs xs :: ds.map D.arg) (v :: vs) H1 (fun _ H' => De.nx σ H') (fun cls d H' => W cls d σ H') := by
  have hL : ∀ a ∈ l, M1 a = some .own := fun a ha => (A.ow a ha).1
  have hlen : 0 < s.length := (List.getElem?_eq_some_iff.mp hs).1
  have a1 := args_rep hL ra (fun _ z => z)
  have toI : ∀ a, lendM (frzM M1 l) a ≠ none → initM M1 (L 0) l a = lendM (frzM M1 l) a := fun a ha => by
    unfold initM
    rw [if_neg]
    intro z
    obtain ⟨_, _, e, hl⟩ := A.in0 z
    exact ha (by rw [lendM_ne (by rw [frzM_out hl, e]; simp), frzM_out hl, e])
  have a2 : ∀ {ds : List D} {vs : List V}, RepA n.c (lendM (frzM M1 l)) H1 ds vs [] → RepA n.c (initM M1 (L 0) l) H1 ds vs [] := fun {ds} => by
    induction ds with
    | nil => exact fun h => h
    | cons d ds ih =>
      rintro vs ⟨v, vs', l1, l2, e, r1, r2, hl⟩
      have e1 : l1 = [] := (List.append_eq_nil_iff.mp hl.symm).1
      have e2 : l2 = [] := (List.append_eq_nil_iff.mp hl.symm).2
      subst e1 e2
      exact ⟨v, vs', [], [], e, Rep.mono d r1 fun a ha _ _ => ⟨toI a ha, .inl rfl, fun _ => rfl⟩, ih r2, rfl⟩
  have rs : Rep n.c (initM M1 (L 0) l) H1 (.ins .own c fs xs) v (L 0) := Rep.mono _ rv fun a ha h1 h2 => by
    have hh := A.R.dom a ha
    have e1 := (A.m1 hh).1
    by_cases h0 : a ∈ L 0
    · exact ⟨(if_pos h0).trans (A.in0 h0).1.symm, .inl e1, fun _ => e1⟩
    · have hn : M a ≠ some .own := fun z => by
        rcases h1 z with q | q
        · exact h0 q
        · cases q
      exact ⟨by rw [A.old hh h0, if_neg hn], .inl e1, fun _ => e1⟩
  have dm : Dom (initM M1 (L 0) l) H1 := fun a ha => by
    by_cases h0 : a ∈ L 0
    · have := (A.in0 h0).2.1
      rw [(A.m1 this).1]; exact this
    · unfold initM at ha
      rw [if_neg h0] at ha
      exact Dom.lend A.st.d hL a ha
  refine ⟨initM M1 (L 0) l, L 0, ⟨v, vs, L 0, [], rfl, rs, a2 a1, by simp⟩, fun d hd => ?_, A.R.nd 0, dm, ?_⟩
  · rcases List.mem_cons.mp hd with e | hd
    · rw [e]; simp [D.md]
    · exact args_md ds d hd
  cases r with
  | stuck => exact False.elim h
  | ret d fins =>
    intro v' M2 H2 lr lf hc ss rv' rf nd
    have k : ∀ a, H1 a ≠ none → initM M1 (L 0) l a ≠ some .own → KeepX H1 H2 a ∧ M2 a = initM M1 (L 0) l a := fun a h1 h2 => ⟨.inl (ss.k a h1 h2).1, (ss.k a h1 h2).2⟩
    cases fins with
    | nil => exact False.elim h
    | cons o fins =>
      cases o with
      | none => exact False.elim h
      | some x =>
        dsimp only at h
        split at h
        · next hx =>
          obtain ⟨l1, l2, rx, _, el⟩ := rf
          have nd1 : l1.Nodup := by
            have := (List.nodup_append.mp nd).2.1
            rw [el] at this
            exact (List.nodup_append.mp this).1
          have h3 : ∀ a, H a ≠ none → a ∉ L 0 → H2 a = H a := fun a ha h0 => by
            have e := A.old ha h0
            obtain ⟨e1, _⟩ := A.m1 ha
            have hn : initM M1 (L 0) l a ≠ some .own := by rw [e]; split <;> simp_all
            exact (ss.k a (by rw [e1]; exact ha) hn).1.trans e1
          have rx' := A.rep k rx (by unfold D.cl; rw [hx]) (H3 := H2) (fun _ _ _ => rfl)
          have dj0 : ∀ {j a}, j ≠ 0 → a ∈ L j → a ∉ l1 := fun {j a} hj ha z => by
            have h0 : a ∉ L 0 := fun q => hj (A.R.dj j 0 a ha q)
            have q := A.brd k (A.R.ow j a ha).1 h0
            rw [(Rep.owns x rx a z).1] at q
            cases q
          refine h (behM M (L 0) M2) H2 σ (fun j => if j = 0 then l1 else L j) (A.stS k ss.o ss.d h3 fun _ z => z) ⟨by simp [A.R.len], (A.stS k ss.o ss.d h3 fun _ z => z).d, fun j y e => ?_, fun j => ?_, fun j q a h1 h2 => ?_, fun j a h => ?_, fun j w e => ?_⟩
          · by_cases hj : j = 0
            · subst hj
              rw [List.getElem?_set_self hlen] at e
              cases e
              rw [if_pos rfl]
              exact ⟨v, hv, rx', by rw [hx]; simp⟩
            · rw [List.getElem?_set_ne (Ne.symm hj)] at e
              rw [if_neg hj]
              exact A.slots k h3 hj e
          · skip
            split
            · exact nd1
            · exact A.R.nd j
          · skip
            split at h1
            · next e1 =>
              split at h2
              · next e2 => rw [e1, e2]
              · next e2 => exact absurd h1 (dj0 e2 h2)
            · next e1 =>
              split at h2
              · exact absurd h2 (dj0 e1 h1)
              · exact A.R.dj j q a h1 h2
          · skip
            split at h
            · exact Rep.owns x rx' a h
            · next hj =>
              obtain ⟨q1, q2⟩ := A.R.ow j a h
              have h0 : a ∉ L 0 := fun q => hj (A.R.dj j 0 a h q)
              exact ⟨if_pos ⟨q1, h0⟩, by rw [h3 a q2 h0]; exact q2⟩
          · obtain ⟨q1, y, q2, q3⟩ := A.R.par j w e
            by_cases hj : j = 0
            · subst hj
              exact ⟨q1, x, List.getElem?_set_self hlen, hx⟩
            · exact ⟨q1, y, by rw [List.getElem?_set_ne (Ne.symm hj)]; exact q2, q3⟩
        · exact False.elim h
  | ex e ys fins =>
    intro dx M2 H2 lf hc ss xr rf nd
    have k := ss.k
    let H3 : Hp := fun a => if H a ≠ none ∧ a ∉ L 0 then H a else H2 a
    have h3 : ∀ a, H a ≠ none → a ∉ L 0 → H3 a = H a := fun a h1 h2 => if_pos ⟨h1, h2⟩
    have h4 : ∀ a, H2 a ≠ none → H3 a ≠ none := fun a ha => by
      show (if H a ≠ none ∧ a ∉ L 0 then H a else H2 a) ≠ none
      split
      · next q => exact q.1
      · exact ha
    have sS := A.stS k ss.o ss.d h3 h4
    have RL : RelL n.c (Pex P (s.set 0 none)) (behM M (L 0) M2) (s.set 0 none) σ H3 (fun j => if j = 0 then [] else L j) := by
      refine ⟨by simp [A.R.len], sS.d, fun j y e => ?_, fun j => ?_, fun j q a h1 h2 => ?_, fun j a h => ?_, fun j w e => ?_⟩
      · by_cases hj : j = 0
        · subst hj
          rw [List.getElem?_set_self hlen] at e
          cases e
        · rw [List.getElem?_set_ne (Ne.symm hj)] at e
          rw [if_neg hj]
          exact A.slots k h3 hj e
      · skip
        split
        · exact .nil
        · exact A.R.nd j
      · skip
        split at h1
        · cases h1
        · split at h2
          · cases h2
          · exact A.R.dj j q a h1 h2
      · skip
        split at h
        · cases h
        · next hj =>
          obtain ⟨q1, q2⟩ := A.R.ow j a h
          have h0 : a ∉ L 0 := fun q => hj (A.R.dj j 0 a h q)
          exact ⟨if_pos ⟨q1, h0⟩, by rw [h3 a q2 h0]; exact q2⟩
      · by_cases hj : j = 0
        · subst hj
          unfold Pex at e
          rw [List.getElem?_set_self hlen] at e
          cases e
        · have e' : P j = some w := by
            unfold Pex at e
            split at e
            · exact e
            · cases e
          obtain ⟨q1, y, q2, q3⟩ := A.R.par j w e'
          exact ⟨q1, y, by rw [List.getElem?_set_ne (Ne.symm hj)]; exact q2, q3⟩
    refine (show PostS n P W M H De (.ex e ys (s.set 0 none)) from h) (behM M (L 0) M2) H3 σ _ sS RL dx (behM M (L 0) M2) H2 ⟨fun a ha => ⟨?_, rfl⟩, fun a ha => ?_⟩ ?_
    · by_cases q : H a ≠ none ∧ a ∉ L 0
      · have := (A.beh k q.1 q.2).1
        rw [show H3 = fun a => if H a ≠ none ∧ a ∉ L 0 then H a else H2 a from rfl]
        unfold KeepX at *
        dsimp only
        rw [if_pos q]
        exact this
      · exact .inl (if_neg q).symm
    · by_cases q : M a = some .own ∧ a ∉ L 0
      · have hh := A.R.dom a (by rw [q.1]; simp)
        exact (A.beh k hh q.2).1.there hh
      · unfold behM at ha
        rw [if_neg q] at ha
        exact ss.d a ha
    · unfold XRep at xr ⊢
      cases ys with
      | nil => exact xr
      | cons y ys =>
        obtain ⟨a, us, e1, em, r1, e2⟩ := xr
        refine ⟨a, us, e1, ?_, A.reps k r1 hc, e2⟩
        by_cases q : M a = some .own ∧ a ∉ L 0
        · have z := A.brd k q.1 q.2
          rw [em] at z; cases z
        · unfold behM; rw [if_neg q]; exact em
end
section
variable {n : Env'} {G : GE} {X : Cx} {np : Nat}
theorem sc_ini (F : FS n G X) (hcm : X.calm = true) {c : Nat} {x sx : Str} {p px apos cpos pos : Pos} {es : List Expr} {ts : List Tm} (hx : x = n.cn c) (ok : n.okc c = true) (hg : Gl X x) (hdb : (x == ("__debug__" : Str)) = false) (hN : X.N[0]? = some sx) (hv : Vis X.env.scope sx) (hd1 : (sx == ("__debug__" : Str)) = false) (hd2 : (sx == ("__classdict__" : Str)) = false)
    (ha : All2 (OkSE n G X) es ts) (hl : es.length < 28) (hln : (apos.endLine == cpos.line) = true) : SC n G X np (.Expr (.Call (.Attribute (.Name x p) "__init__" apos) (.Name sx px :: es) [] cpos) pos) (.ini c ts) := by
  intro W tk P hP M s σ H L De R h
  unfold exec at h
  have hsa := sa_of ha
  have ho := All2.ok ha
  obtain ⟨hm, hk⟩ := F.cnm c ok
  rw [← hx] at hm
  cases he : evalL G ts (viewS (s.set 0 none)) with
  | stuck => rw [he] at h; exact False.elim h
  | ex c' xs => rw [he] at h; exact False.elim h
  | ok ds =>
    rw [he] at h
    simp only [Res.noEx_ok, Out.ofRes_ok] at h
    cases hi : G.init c with
    | none => rw [hi] at h; exact False.elim h
    | some f =>
      rw [hi] at h
      dsimp only at h
      split at h
      · next k fs xs hs =>
        have hns : G.call f (.ins .own k fs xs :: ds.map D.arg) ≠ .stuck := fun z => by rw [z] at h; exact h
        obtain ⟨lv, fd, ps, dvs, dsv, sp, hF, hr, hkp, hd, hb, hsp⟩ := F.call hcm f _ hns
        have B := F.bas c f hi
        obtain ⟨v, e1, rv, _⟩ := R.at_ 0 _ hs
        refine ⟨_, ps_expr (pe_baseW tk hg hm hdb B hF hr hb hd (pa_cons (pe_var hN hv hd1 hd2) wa) (fun q hq => ?_) (by simp; omega) hln) rfl, v, e1, ?_⟩
        · rcases List.mem_cons.mp hq with e | hq
          · rw [e]; rfl
          · exact ho q hq
        · refine hsa W tk _ _ σ H _ R.hide.view ?_
          rw [he]
          intro vs M1 H1 l st ra fr nd
          exact hsp _ _ _ _ (ini_spec ⟨R, st, fr, fun a ha => RepA.own ra a ha⟩ ra hs e1 rv h)
      · exact False.elim h
end
end GS

namespace GS
open PySem PySem.Spec PyProof.Rows L2

section
variable {n : Env'} {G : GE} {X : Cx} {W : WX} {M M0 M1 M' : MM} {H H0 H1 H' : Hp} {s : Sl} {σ : L2.St} {P : Nat → Option V} {L : Nat → List Addr} {np : Nat} {Dd : Ends}

/-! ## o.f = y -/
theorem sc_fput (F : FS n G X) {o : Bool} {i f : Nat} {x fnm : Str} {e : Expr} {t : Tm} {p fpos pos : Pos} (hf : fnm = n.c.an f) (hN : X.N[i]? = some x) (hv : Vis X.env.scope x) (hdb : (x == ("__debug__" : Str)) = false) (hcd : (x == ("__classdict__" : Str)) = false) (he : SE n G X e t)
    (hs : swapsWith e (some (.Attribute (.Name x p) fnm fpos)) pos.line X.env = pure false) : SC n G X np (.Assign [.Attribute (.Name x p) fnm fpos] e pos) (.fput o i [] f t) := by
  intro W tk P hP M s σ H L De R h
  unfold exec evalSt at h
  simp only [Out.ofRes_ok] at h
  subst hf
  refine ⟨_, ps_fld (pe_var hN hv hdb hcd) we hs, ?_⟩
  refine he W tk M _ σ H _ R.view ((post_res R h).imp (fun y ey hy v M1 H1 l1 s1 r fr nd1 => ?_) fun _ _ q => q)
  split at hy
  · next hc =>
    obtain ⟨d, d', hs', hg, hy⟩ := upd_at_nil hy
    cases d with
    | ins m c fs ds =>
      cases m with
      | own =>
        obtain ⟨a, dx, fvs, l, e1, ha, hm, ek, rr, el, hna, nd, h0⟩ := ins_at R hs'
        have R1 := R.step s1
        obtain ⟨M2, l2, st2, R2, r2, nd2, fr2, ck⟩ := keep_it (o := o) R1 r nd1 (fresh_L R fr) hc
        obtain ⟨a', dx', fvs', l', e1', ha', hm', ek', rr', el', hna', nd', _⟩ := ins_at R2 hs'
        rw [e1] at e1'
        cases e1'
        rw [el] at el'
        cases el'
        have hv : dx = dx' ∧ fvs = fvs' := by
          have := (s1.k a (by rw [ha]; simp)).1
          rw [ha, ha'] at this
          cases this; exact ⟨rfl, rfl⟩
        obtain ⟨rfl, rfl⟩ := hv
        have hdl : ∀ b ∈ l2, b ∉ l := fun b hb z => fr2 b hb i (by rw [el]; simp [z])
        have ha2 : a ∉ l2 := fun z => fr2 a z i (by rw [el]; simp)
        unfold gFput at hg
        dsimp only at hg
        split at hg
        · cases hg
        · next hok =>
          simp only [Bool.not_eq_false, Bool.and_eq_true, decide_eq_true_eq] at hok
          have hcn := F.fok c f hok.1
          rw [if_neg (by rw [h0]; simp)] at hcn
          obtain ⟨hcls, hno⟩ := hcn
          have hlen : fvs.length = fs.length := by
            have := congrArg List.length ek
            simpa using this
          have fin : ∀ (d' : D) (l4 : List Addr), Rep n.c M2 (upd H1 a (.ins (n.c.ca c) dx (putF (n.c.an f) v fvs))) d' (.ref a) (a :: l4) → l4.Nodup → a ∉ l4 → (∀ b ∈ l4, b ∈ l ∨ b ∈ l2) → d'.md = .own → PostS n P W M H De (.nx (s.set i (some d'))) → De.nx σ (upd H1 a (.ins (n.c.ca c) dx (putF (n.c.an f) v fvs))) := fun d' l4 hr hn hna4 hsub ho hk => by
            refine hk M2 _ σ _ ((s1.toS R.dom).trans (st2.trans (stS_store R2.dom hm'))) (R2.store hs' e1 (by rw [el]; simp) hr (List.nodup_cons.mpr ⟨hna4, hn⟩) (fun b hb => ?_) ho)
            rcases List.mem_cons.mp hb with z | z
            · exact .inl (by rw [el, z]; simp)
            · rcases hsub b z with z | z
              · exact .inl (by rw [el]; simp [z])
              · exact .inr (fr2 b z)
          refine ⟨.ref a, e1, a, n.c.ca c, dx, fvs, rfl, ha', hcls, hno, by rw [hlen]; omega, ?_⟩
          split at hg
          · next hA =>
            cases hg
            obtain ⟨l4, h1, h2, h3⟩ := reps_fld F.inj r2 ck ek rr' hA
            exact fin (.ins .own c fs (setFld f (kept o y) fs ds)) l4 ⟨a, dx, _, l4, rfl, .inl ⟨h0, hm', upd_same⟩, h2, upd_keeps h1 (by simp) (fun z => (h3.mem z).elim hna ha2) hm', rfl⟩ (h3.nd nd nd2 hdl) (fun z => (h3.mem z).elim hna ha2) (fun b hb => h3.mem hb) rfl hy
          · next hA =>
            cases hg
            have hA : (fs.any fun q => decide (q = f)) = false := Bool.eq_false_iff.mpr hA
            have hput := putF_new F.inj (v := v) ek hA
            refine fin (.ins .own c (fs ++ [f]) (ds ++ [kept o y])) (l ++ l2) ⟨a, dx, _, l ++ l2, rfl, .inl ⟨h0, hm', upd_same⟩, ?_, ?_, rfl⟩ (List.nodup_append.mpr ⟨nd, nd2, fun b hb c hc e => hdl c hc (by rw [← e]; exact hb)⟩) (fun z => (List.mem_append.mp z).elim hna ha2) (fun b hb => List.mem_append.mp hb) rfl hy
            · rw [hput]; simp [ek]
            · rw [hput, List.map_append]
              exact upd_keeps (rr'.append (Reps.one r2 ck)) (by simp) (fun z => (List.mem_append.mp z).elim hna ha2) hm'
      | _ => unfold gFput at hg; cases hg
    | _ => unfold gFput at hg; cases hg
  · exact False.elim hy

/-! ## x = [.. for ..] -/
theorem sc_setLc (F : FS n G X) (hcm : X.calm = true) {i : Nat} {x : Str} {elt tg iter : Expr} {ifs : List Expr} {scope : Scope} {pos py spos : Pos} {te : Tm} {tgS : Tg} {it : Itr} {tifs : List Tm} {own : List (Str × Nat)}
    (hN : X.N[i]? = some x) (hxl : X.env.scope.names.lookup x = some .local) (hsw : swapsWith (.ListComp elt [⟨tg, iter, ifs, 0⟩] scope pos) (some (.Name x py)) spos.line X.env = pure true)
    (hown : own.map (·.2) = tgNames tgS) (hblk : blkC X.N X.env.scope scope own = true) (hi : SI n G X false tg iter it) (ho : okE iter = true)
    (htg : ∀ (s : Shared) (H : Hp) (C : Addr) (cl : List (Str × Addr)) (fp : List Addr), tgC (X.blk s H scope (compEnvC scope cl C X.env) fp).N (X.blk s H scope (compEnvC scope cl C X.env) fp).env.scope (X.blk s H scope (compEnvC scope cl C X.env) fp).fn tgS tg = true)
    (hif : ∀ (s : Shared) (H : Hp) (C : Addr) (cl : List (Str × Addr)) (fp : List Addr), PTq n G (X.blk s H scope (compEnvC scope cl C X.env) fp) ifs tifs)
    (he : ∀ (s : Shared) (H : Hp) (C : Addr) (cl : List (Str × Addr)) (fp : List Addr), SE n G (X.blk s H scope (compEnvC scope cl C X.env) fp) elt te) :
    SC n G X np (.Assign [.Name x py] (.ListComp elt [⟨tg, iter, ifs, 0⟩] scope pos) spos) (.set i (.cmpr te tgS it tifs)) := by
  intro W tk P hP M s σ H L De R h
  unfold exec at h
  refine ⟨_, ps_unl (ps_setLc (own := own) (wi := WI X tg iter)
    (g := fun v σ H Q => ∀ (s : Shared) (H' : Hp) (C : Addr) (cl : List (Str × Addr)) (fp : List Addr), WG (X.blk s H' scope (compEnvC scope cl C X.env) fp) tg v σ H Q)
    (tt := fun σ H Q => ∀ (s : Shared) (H' : Hp) (C : Addr) (cl : List (Str × Addr)) (fp : List Addr), ∃ tt, PTs (X.blk s H' scope (compEnvC scope cl C X.env) fp) ifs tt ∧ tt σ H Q)
    (te := fun σ H Q => ∀ (s : Shared) (H' : Hp) (C : Addr) (cl : List (Str × Addr)) (fp : List Addr), WE (X.blk s H' scope (compEnvC scope cl C X.env) fp) elt σ H Q)
    hcm F.nd hN hxl hsw wi_ (blkOk_by hblk) (fun s' H' C cl fp => ⟨fun pins sh σ H v u Q I r hw => wg.run pins sh σ H v u Q I r (hw s' H' C cl fp)⟩)
    (fun s' H' C cl fp => ⟨fun pins sh σ H Q I hw => let ⟨tt, h1, h2⟩ := hw s' H' C cl fp; h1.run pins sh σ H Q I h2⟩)
    (fun s' H' C cl fp => ⟨fun pins sh σ H Q I hw => we.run pins sh σ H Q I (hw s' H' C cl fp)⟩) (fun x => okE_fold ho _ x)), ?_⟩
  refine lc_run (own := own) F.toFC (ifs := ifs) (elt := elt) (scope := scope) (pos := pos) (Q := fun v H' => De.nx (σ.set i (some v)) H') hown hi tk R.view ?_ ?_ ?_ ((post_res R h).imp (fun d ed hd v M1 H1 l s1 r f nd => ?_) fun _ _ q => q)
  · exact fun M s σ H d v s' Q R r hb hq s0 H' C cl fp => bt_run ⟨(F.blk _ _ _ _ _).toFX, hcm⟩ tgS tg (htg s0 H' C cl fp) s σ d v s' Q R r hb hq
  · exact fun M s σ H Q R hq s0 H' C cl fp => let ⟨tt, h1, h2⟩ := hif s0 H' C cl fp; ⟨tt, h1, h2 M s σ H Q R hq⟩
  · exact fun M s σ H Q R hq s0 H' C cl fp => he s0 H' C cl fp _ takes_false M s σ H Q R (PR.noEx hq)
  · obtain ⟨s', hs', hd⟩ := post_opt hd
    unfold setS at hs'
    split at hs'
    · next hc =>
      rw [Bool.and_eq_true] at hc
      cases hs'
      obtain ⟨L', R', _⟩ := (R.step s1).put r nd (fresh_L R f) (free_none R hP hc.1) (by have := hc.2; unfold notVw at this; simpa using this)
      exact hd M1 H1 _ L' (s1.toS R.dom) R'
    · cases hs'

/-! ## the checker of statements -/
def noComp : Expr → Bool
  | .ListComp _ _ _ _ => false
  | .SetComp _ _ _ _ => false
  | .DictComp _ _ _ _ _ => false
  | _ => true
theorem noComp_sw {e : Expr} (h : noComp e = true) (tg : Option Expr) (l : Nat) (env : Env) : swapsWith e tg l env = pure false := by
  cases e <;> first | (cases h; done) | rfl
def notTup : Expr → Bool
  | .Tuple _ _ _ => false
  | _ => true
theorem notTup_sw {e : Expr} (h : notTup e = true) (tg : Expr) (env : Env) : swappedStores [tg] e env = pure none := by
  cases e <;> cases tg <;> first | (cases h; done) | rfl
end
def cellComp (sc : Scope) (x : Str) : Expr → Bool
  | .ListComp _ _ _ _ => decide (sc.names.lookup x = some .cell)
  | _ => false
def isGh : Cm → Bool
  | .frz _ => true
  | .frzc _ => true
  | .kil _ => true
  | _ => false
/-- one text as the argument -/
def textB : List Expr → Bool
  | [.Constant (.str _) _ _] => true
  | _ => false
def nmB (K : CT) : Option Str → Option Nat → Bool
  | none, none => true
  | some m, some i => decide (K.N[i]? = some m) && decide (K.sc.names.lookup m = some .local)
  | _, _ => false
mutual
def chS (K : CT) : Cm → Stmt → Bool
  | .set i t, st => match st with
    | .Assign [.Name x py] e pos => decide (K.N[i]? = some x) && locC K.sc K.fn x && (
        (noComp e && chE t false K e) || (cellComp K.sc x e && chE t false K e) ||
        (match t, e with
          | .cmpr t g it ifs, .ListComp elt [⟨tg, iter, es, 0⟩] scope pos => decide (K.sc.names.lookup x = some .local) && (py.line == pos.line) && !(scope.names.any fun (n, k) => n == x && (k == .local || k == .cell)) && chE (.cmpr t g it ifs) false K e
          | _, _ => false))
    | _ => false
  | .unp g t, st => match st with
    | .Assign [tg] e _ => tgC K.N K.sc K.fn g tg && noComp e && notTup e && chE t false K e && K.calm
    | _ => false
  | .par _ _ _ _, _ => false
  | .aug _ _ _, _ => false
  | .put o i ss ti t, st => match ss, st with
    | [], .Assign [.Subscript (.Name x _) ie _] e _ => decide (K.N[i]? = some x) && visB K.sc x && notSp x && okE ie && noComp e && chE ti false K ie && chE t false K e
    | _, _ => false
  | .fput o i ss f t, st => match ss, st with
    | [], .Assign [.Attribute (.Name x _) fnm _] e _ => decide (fnm = K.nt.an f) && decide (K.N[i]? = some x) && visB K.sc x && notSp x && noComp e && chE t false K e
    | _, _ => false
  | .app o i ss t, st => match ss, st with
    | [], .Expr (.Call (.Attribute (.Name x _) mn apos) [e] [] cpos) _ => decide (mn = ("append" : Str)) && decide (K.N[i]? = some x) && visB K.sc x && notSp x && okE e && lineB apos cpos && chE t false K e
    | _, _ => false
  | .ext i ss t, st => match ss, st with
    | [], .Expr (.Call (.Attribute (.Name x _) mn apos) [e] [] cpos) _ => decide (mn = ("extend" : Str)) && decide (K.N[i]? = some x) && visB K.sc x && notSp x && okE e && lineB apos cpos && chE t false K e
    | _, _ => false
  | .clr i ss, st => match ss, st with
    | [], .Expr (.Call (.Attribute (.Name x _) mn apos) [] [] cpos) _ => decide (mn = ("clear" : Str)) && decide (K.N[i]? = some x) && visB K.sc x && notSp x && lineB apos cpos
    | _, _ => false
  | .ex t, st => match st with
    | .Expr e _ => noComp e && chE t false K e
    | _ => false
  | .ini c ts, st => match st with
    | .Expr (.Call (.Attribute (.Name x _) mn apos) (.Name sx _ :: es) [] cpos) _ => decide (mn = ("__init__" : Str)) && decide (x = K.nt.cn c) && K.nt.okc c && glB K.sc x && notSp x && decide (K.N[0]? = some sx) && visB K.sc sx && notSp sx && chEs ts false true K es && decide (es.length < 28) && lineB apos cpos && K.calm
    | _ => false
  | .ret t, st => match st with
    | .Return (some e) _ => chE t false K e
    | _ => false
  | .retv i, st => match st with
    | .Return (some (.Name x _)) _ => decide (K.N[i]? = some x) && visB K.sc x && notSp x
    | _ => false
  | .ret0, st => match st with
    | .Return none _ => true
    | _ => false
  | .ite c a b, st => match st with
    | .If e x y _ => chE c true K e && chSs K a x && chSs K b y
    | _ => false
  | .whl c b, st => match st with
    | .While e x [] _ => chE c true K e && chSs K b x
    | _ => false
  | .for_ g it b, st => match st with
    | .For tg iter x [] _ => tgC K.N K.sc K.fn g tg && okE iter && chI it true K tg iter && chSs K b x && K.calm
    | _ => false
  | .brk, st => match st with
    | .Break _ => true
    | _ => false
  | .cnt, st => match st with
    | .Continue _ => true
    | _ => false
  | .pas, st => match st with
    | .Pass _ => true
    | .Expr (.Constant (.str _) _ _) _ => true
    | _ => false
  | .rai c ts, st => match st with
    | .Raise (some (.Call (.Name x _) es [] _)) none _ => decide (x = K.nt.cn c) && K.nt.okc c && glB K.sc x && notSp x && K.calm && ((ts.isEmpty && decide (K.nt.xf c = []) && textB es) || (chEs ts false true K es && !es.isEmpty && decide (es.length ≤ 900)))
    | _ => false
  | .try_ b hs, st => match st with
    | .Try body hds [] [] _ => chAs K b body && chH K hs hds && !hds.isEmpty && K.calm
    | _ => false
  | .frz _, _ => false
  | .frzc _, _ => false
  | .kil _, _ => false
  | .never, _ => true
/-- statements whose exception leaves the slots as they were -/
def chA (K : CT) : Cm → Stmt → Bool
  | .set i t, st => match st with
    | .Assign [.Name x _] e _ => decide (K.N[i]? = some x) && locC K.sc K.fn x && noComp e && chE t false K e
    | _ => false
  | .ex t, st => match st with
    | .Expr e _ => noComp e && chE t false K e
    | _ => false
  | .ret t, st => match st with
    | .Return (some e) _ => chE t false K e
    | _ => false
  | .ite c a b, st => match st with
    | .If e x y _ => chE c true K e && chAs K a x && chAs K b y
    | _ => false
  | _, _ => false
def chAs (K : CT) : List Cm → List Stmt → Bool
  | [], sts => sts.isEmpty
  | c :: cs, sts => match sts with
    | [st] => chA K c st && cs.all isGh
    | _ => false
def chH (K : CT) : Hd → List ExceptHandler → Bool
  | .nil, hds => hds.isEmpty
  | .cons c o su hs, hds => match hds with
    | .ExceptHandler (some (.Name x _)) no body _ :: hds => decide (x = K.nt.cn c) && K.nt.okc c && glB K.sc x && notSp x && nmB K no o && !body.isEmpty && chSs ⟨K.nt, K.N, K.sc, K.fn, false⟩ su body && chH K hs hds
    | _ => false
def chSs (K : CT) : List Cm → List Stmt → Bool
  | [], sts => sts.isEmpty
  | c :: cs, sts => if isGh c = true then chSs K cs sts else match sts with
    | st :: sts => chS K c st && chSs K cs sts
    | [] => false
end
section
variable {n : Env'} {G : GE} {X : Cx} {np : Nat} {K : CT}
theorem sw_cell {elt : Expr} {gs : List Comprehension} {scope : Scope} {pos py : Pos} {y : Str} {l : Nat} {env : Env} (hy : env.scope.names.lookup y = some .cell) : swapsWith (.ListComp elt gs scope pos) (some (.Name y py)) l env = pure false := by
  have ky : env.kindOf y = some .cell := hy
  unfold swapsWith
  simp only [ky]
  have : (NameKind.cell == NameKind.local) = false := rfl
  have h2 : ((some NameKind.cell : Option NameKind) == some NameKind.local) = false := rfl
  simp only [h2, Bool.and_false, Bool.false_and]
structure CtxS (n : Env') (G : GE) (X : Cx) (K : CT) : Prop extends CtxOk n G X K where
  pass : PassesOwn (model X.prog X.w) X.A X.env X.xe
  kind : X.env.scope.kind = .function
  stk : X.stack = X.env :: X.outer
  frm : X.env.frame = some X.env.locals
  exn : X.ex = []
theorem CtxS.S (C : CtxS n G X K) : FS n G X := ⟨C.F, C.pass, C.stk, C.frm, C.exn⟩
/-- the context of a try's body -/
theorem CtxS.tr (C : CtxS n G X K) (pn : List (Addr × Obj)) (xe : Value → Shared → Prop) (ps : PassesOwn (model X.prog X.w) X.A X.env xe) : CtxS n G (X.tr pn xe) K :=
  { F := { K := C.F.K, hu := C.F.hu, nd := C.F.nd, call := C.F.call, make := C.F.make, xcE := C.F.xcE, xfE := C.F.xfE, xm := C.F.xm, xk := C.F.xk, xt := C.F.xt, xi := C.F.xi, nxm := C.F.nxm, nxi := C.F.nxi, cls := C.F.cls, mki := C.F.mki, bas := C.F.bas, glb := C.F.glb, fok := C.F.fok, fnm := C.F.fnm, cnm := C.F.cnm, free := C.F.free, ity := C.F.ity, itk := C.F.itk, itb := C.F.itb, inj := C.F.inj },
    N := C.N, sc := C.sc, fn := C.fn, nt := C.nt, calm := C.calm, pass := ps, kind := C.kind, stk := C.stk, frm := C.frm, exn := C.exn }
/-- the context of an except suite -/
theorem CtxS.suite (C : CtxS n G X K) (a : Addr) (pn : List (Addr × Obj)) : CtxS n G (X.suite a pn) ⟨K.nt, K.N, K.sc, K.fn, false⟩ :=
  { F := { K := C.F.K, hu := C.F.hu, nd := C.F.nd, call := (fun z => nomatch z), make := (fun z => nomatch z), xcE := C.F.xcE, xfE := C.F.xfE, xm := C.F.xm, xk := C.F.xk, xt := C.F.xt, xi := (fun z => nomatch z), nxm := C.F.nxm, nxi := C.F.nxi, cls := C.F.cls, mki := C.F.mki, bas := C.F.bas, glb := C.F.glb, fok := C.F.fok, fnm := C.F.fnm, cnm := C.F.cnm, free := C.F.free, ity := C.F.ity, itk := C.F.itk, itb := C.F.itb, inj := C.F.inj },
    N := C.N, sc := C.sc, fn := C.fn, nt := C.nt, calm := (fun z => nomatch z), pass := PassesOwn.never, kind := C.kind, stk := C.stk, frm := C.frm, exn := C.exn }
theorem gh_noex {G : GE} {np : Nat} : ∀ (gs : List Cm), gs.all isGh = true → ∀ s c ds s', execs G whileV np gs s ≠ .ex c ds s'
  | [], _, s, c, ds, s', z => by unfold execs at z; cases z
  | g :: gs, h, s, c, ds, s', z => by
    rw [List.all_cons, Bool.and_eq_true] at h
    unfold execs at z
    have ih := gh_noex (G := G) (np := np) gs h.2
    cases g <;> first | (cases h.1; done) | skip
    · unfold exec at z
      split at z
      · split at z
        · exact ih _ _ _ _ z
        · cases z
      · cases z
    · unfold exec at z
      split at z
      · exact ih _ _ _ _ z
      · exact ih _ _ _ _ z
      · cases z
    · unfold exec at z
      split at z
      · exact ih _ _ _ _ z
      · cases z
mutual
theorem csS : ∀ (c : Cm) (st : Stmt) (X : Cx) (K : CT), chS K c st = true → CtxS n G X K → SC n G X np st c
  | .set i t, st, X, K, h, C => by
    unfold chS at h
    split at h
    · next x py e pos =>
      simp only [Bool.and_eq_true, decide_eq_true_eq, Bool.or_eq_true] at h
      obtain ⟨⟨h1, h2⟩, h3⟩ := h
      rcases h3 with (⟨h3, h4⟩ | ⟨h3, h4⟩) | h3
      rotate_left
      · have hs : ∀ l, swapsWith e (some (.Name x py)) l X.env = pure false := fun l => by
          unfold cellComp at h3
          split at h3
          · exact sw_cell (by rw [C.sc]; exact of_decide_eq_true h3)
          · cases h3
        exact sc_set C.S (by rw [C.N]; exact h1) (by rw [C.sc, C.fn]; exact h2) (ceE t false K e h4 X C.toCtxOk) (hs _)
      rotate_left
      · exact sc_set C.S (by rw [C.N]; exact h1) (by rw [C.sc, C.fn]; exact h2) (ceE t false K e h4 X C.toCtxOk) (noComp_sw h3 _ _ _)
      · split at h3
        · next t g it ifs elt tg iter es scope pos' =>
          simp only [Bool.and_eq_true, decide_eq_true_eq, Bool.not_eq_true'] at h3
          obtain ⟨⟨⟨h4, h5⟩, h6⟩, h7⟩ := h3
          unfold chE at h7
          simp only [Bool.and_eq_true, decide_eq_true_eq, Bool.not_eq_true'] at h7
          obtain ⟨⟨⟨⟨⟨⟨⟨⟨hb, g1⟩, g2⟩, g3⟩, g4⟩, g5⟩, g6⟩, g7⟩, hk⟩ := h7
          refine sc_setLc C.S (C.calm hk) (own := ownOf K.N (tgNames g)) (by rw [C.N]; exact h1) (by rw [C.sc]; exact h4) (sw_true C.kind (by rw [C.sc]; exact h4) h5 h6) (ownOf_snd _ _) (by rw [C.N, C.sc]; exact g1) (ceI it false K tg iter g3 X C.toCtxOk) g2 (fun s H A cl fp => ?_) (fun s H A cl fp => ?_) (fun s H A cl fp => ceE t false (K.blk scope) elt g7 _ (C.toCtxOk.blk s H scope A cl fp))
          · have C' := C.toCtxOk.blk s H scope A cl fp
            rw [C'.N, C'.sc, C'.fn]; exact g4
          · have hA := ceEs ifs true false (K.blk scope) es g6 _ (C.toCtxOk.blk s H scope A cl fp)
            cases hA with
            | nil => exact ptq_nil
            | cons z hr =>
              cases hr with
              | nil => exact ptq_one takes_false z.2
              | cons _ _ => simp at g5
        · cases h3
    · cases h
  | .unp g t, st, X, K, h, C => by
    unfold chS at h
    split at h
    · simp only [Bool.and_eq_true] at h
      obtain ⟨⟨⟨⟨h1, h2⟩, h3⟩, h4⟩, hk⟩ := h
      exact sc_unp C.S (C.calm hk) (by rw [C.N, C.sc, C.fn]; exact h1) (ceE t false K _ h4 X C.toCtxOk) (noComp_sw h2 _ _ _) (notTup_sw h3 _ _)
    · cases h
  | .par _ _ _ _, _, _, _, h, _ => by unfold chS at h; cases h
  | .aug _ _ _, _, _, _, h, _ => by unfold chS at h; cases h
  | .put o i ss ti t, st, X, K, h, C => by
    unfold chS at h
    split at h
    · simp only [Bool.and_eq_true, decide_eq_true_eq] at h
      obtain ⟨⟨⟨⟨⟨⟨h1, h2⟩, h3⟩, h4⟩, h5⟩, h6⟩, h7⟩ := h
      exact sc_put C.S (by rw [C.N]; exact h1) (by rw [C.sc]; exact vis_of h2) (sp_of h3).1 (sp_of h3).2 (ceE ti false K _ h6 X C.toCtxOk) (ceE t false K _ h7 X C.toCtxOk) h4 (noComp_sw h5 _ _ _) rfl
    · cases h
  | .fput o i ss f t, st, X, K, h, C => by
    unfold chS at h
    split at h
    · simp only [Bool.and_eq_true, decide_eq_true_eq] at h
      obtain ⟨⟨⟨⟨⟨h0, h1⟩, h2⟩, h3⟩, h4⟩, h5⟩ := h
      exact sc_fput C.S (by rw [h0, ← C.nt]; rfl) (by rw [C.N]; exact h1) (by rw [C.sc]; exact vis_of h2) (sp_of h3).1 (sp_of h3).2 (ceE t false K _ h5 X C.toCtxOk) (noComp_sw h4 _ _ _)
    · cases h
  | .app o i ss t, st, X, K, h, C => by
    unfold chS at h
    split at h
    · simp only [Bool.and_eq_true, decide_eq_true_eq] at h
      obtain ⟨⟨⟨⟨⟨⟨h0, h1⟩, h2⟩, h3⟩, h4⟩, h5⟩, h6⟩ := h
      subst h0
      exact sc_app C.S (by rw [C.N]; exact h1) (by rw [C.sc]; exact vis_of h2) (sp_of h3).1 (sp_of h3).2 (ceE t false K _ h6 X C.toCtxOk) h4 h5
    · cases h
  | .ext i ss t, st, X, K, h, C => by
    unfold chS at h
    split at h
    · simp only [Bool.and_eq_true, decide_eq_true_eq] at h
      obtain ⟨⟨⟨⟨⟨⟨h0, h1⟩, h2⟩, h3⟩, h4⟩, h5⟩, h6⟩ := h
      subst h0
      exact sc_ext C.S (by rw [C.N]; exact h1) (by rw [C.sc]; exact vis_of h2) (sp_of h3).1 (sp_of h3).2 (ceE t false K _ h6 X C.toCtxOk) h4 h5
    · cases h
  | .clr i ss, st, X, K, h, C => by
    unfold chS at h
    split at h
    · simp only [Bool.and_eq_true, decide_eq_true_eq] at h
      obtain ⟨⟨⟨⟨h0, h1⟩, h2⟩, h3⟩, h5⟩ := h
      subst h0
      exact sc_clr C.S (by rw [C.N]; exact h1) (by rw [C.sc]; exact vis_of h2) (sp_of h3).1 (sp_of h3).2 h5
    · cases h
  | .ex t, st, X, K, h, C => by
    unfold chS at h
    split at h
    · simp only [Bool.and_eq_true] at h
      exact sc_ex C.S (ceE t false K _ h.2 X C.toCtxOk) (noComp_sw h.1 _ _ _)
    · cases h
  | .ini c ts, st, X, K, h, C => by
    unfold chS at h
    split at h
    · simp only [Bool.and_eq_true, decide_eq_true_eq] at h
      obtain ⟨⟨⟨⟨⟨⟨⟨⟨⟨⟨⟨h1, h2⟩, h3⟩, h4⟩, h5⟩, h6⟩, h7⟩, h8⟩, h9⟩, h10⟩, h11⟩, hk⟩ := h
      subst h1
      have hA := (ceEs ts false true K _ h9 X C.toCtxOk).imp fun _ _ z => (⟨z.1 rfl, z.2⟩ : OkSE n G X _ _)
      exact sc_ini C.S (C.calm hk) (by rw [h2, ← C.nt]; rfl) (by rw [← C.nt] at h3; exact h3) (gl_of C.sc h4) (sp_of h5).1 (by rw [C.N]; exact h6) (by rw [C.sc]; exact vis_of h7) (sp_of h8).1 (sp_of h8).2 hA h10 h11
    · cases h
  | .ret t, st, X, K, h, C => by
    unfold chS at h
    split at h
    · exact sc_ret C.S (ceE t false K _ h X C.toCtxOk)
    · cases h
  | .retv i, st, X, K, h, C => by
    unfold chS at h
    split at h
    · simp only [Bool.and_eq_true, decide_eq_true_eq] at h
      exact sc_retv C.S (by rw [C.N]; exact h.1.1) (by rw [C.sc]; exact vis_of h.1.2) (sp_of h.2).1 (sp_of h.2).2
    · cases h
  | .ret0, st, X, K, h, C => by
    unfold chS at h
    split at h
    · exact sc_ret0
    · cases h
  | .ite c a b, st, X, K, h, C => by
    unfold chS at h
    split at h
    · simp only [Bool.and_eq_true] at h
      exact sc_ite (ceE c true K _ h.1.1 X C.toCtxOk) (csSs a _ _ _ h.1.2 C) (csSs b _ _ _ h.2 C)
    · cases h
  | .whl c b, st, X, K, h, C => by
    unfold chS at h
    split at h
    · simp only [Bool.and_eq_true] at h
      exact sc_whl C.S (ceE c true K _ h.1 X C.toCtxOk) (csSs b _ _ _ h.2 C)
    · cases h
  | .for_ g it b, st, X, K, h, C => by
    unfold chS at h
    split at h
    · simp only [Bool.and_eq_true] at h
      obtain ⟨⟨⟨⟨h1, h2⟩, h3⟩, h4⟩, hk⟩ := h
      exact sc_for C.S (C.calm hk) (by rw [C.N, C.sc, C.fn]; exact h1) (ceI it true K _ _ h3 X C.toCtxOk) h2 (csSs b _ _ _ h4 C)
    · cases h
  | .brk, st, X, K, h, C => by
    unfold chS at h
    split at h
    · exact sc_brk
    · cases h
  | .cnt, st, X, K, h, C => by
    unfold chS at h
    split at h
    · exact sc_cnt
    · cases h
  | .pas, st, X, K, h, C => by
    unfold chS at h
    split at h
    · exact sc_pas
    · exact sc_doc
    · cases h
  | .rai c ts, st, X, K, h, C => by
    unfold chS at h
    split at h
    · next x p1 es p2 p3 =>
      simp only [Bool.and_eq_true, decide_eq_true_eq, Bool.or_eq_true, Bool.not_eq_true', List.isEmpty_iff] at h
      obtain ⟨⟨⟨⟨⟨h1, h2⟩, h3⟩, h4⟩, hk⟩, h5⟩ := h
      have e1 : x = n.cn c := by rw [h1, ← C.nt]; rfl
      have e2 : n.okc c = true := by rw [← C.nt] at h2; exact h2
      rcases h5 with ⟨⟨rfl, h6⟩, h7⟩ | ⟨⟨h6, h7⟩, h8⟩
      · unfold textB at h7
        split at h7
        · exact sc_rai0 C.S (C.calm hk) e1 e2 (gl_of C.sc h3) (sp_of h4).1 (by rw [← C.nt] at h6; exact h6)
        · cases h7
      · have hA := (ceEs ts false true K _ h6 X C.toCtxOk).imp fun _ _ z => (⟨z.1 rfl, z.2⟩ : OkSE n G X _ _)
        exact sc_rai C.S (C.calm hk) e1 e2 (gl_of C.sc h3) (sp_of h4).1 hA (fun z => by rw [z] at h7; cases h7) h8
    · cases h
  | .try_ b hs, st, X, K, h, C => by
    unfold chS at h
    split at h
    · next body hds p =>
      simp only [Bool.and_eq_true, Bool.not_eq_true'] at h
      obtain ⟨⟨⟨h1, h2⟩, h3⟩, hk⟩ := h
      exact sc_try C.S (fun pn xe ps => csAs b body _ _ h1 (C.tr pn xe ps)) (csH hs hds _ _ h2 C) (fun z => by rw [z] at h3; cases h3)
    · cases h
  | .frz _, _, _, _, h, _ => by unfold chS at h; cases h
  | .frzc _, _, _, _, h, _ => by unfold chS at h; cases h
  | .kil _, _, _, _, h, _ => by unfold chS at h; cases h
  | .never, _, _, _, _, _ => sc_never
theorem csA : ∀ (c : Cm) (st : Stmt) (X : Cx) (K : CT), chA K c st = true → CtxS n G X K → SCA n G X np st c
  | .set i t, st, X, K, h, C => by
    unfold chA at h
    split at h
    · simp only [Bool.and_eq_true, decide_eq_true_eq] at h
      obtain ⟨⟨⟨h1, h2⟩, h3⟩, h4⟩ := h
      exact sca_set C.S (by rw [C.N]; exact h1) (by rw [C.sc, C.fn]; exact h2) (ceE t false K _ h4 X C.toCtxOk) (noComp_sw h3 _ _ _)
    · cases h
  | .ex t, st, X, K, h, C => by
    unfold chA at h
    split at h
    · simp only [Bool.and_eq_true] at h
      exact sca_ex C.S (ceE t false K _ h.2 X C.toCtxOk) (noComp_sw h.1 _ _ _)
    · cases h
  | .ret t, st, X, K, h, C => by
    unfold chA at h
    split at h
    · exact sca_ret C.S (ceE t false K _ h X C.toCtxOk)
    · cases h
  | .ite c a b, st, X, K, h, C => by
    unfold chA at h
    split at h
    · simp only [Bool.and_eq_true] at h
      exact sca_ite (ceE c true K _ h.1.1 X C.toCtxOk) (csAs a _ _ _ h.1.2 C) (csAs b _ _ _ h.2 C)
    · cases h
  | .unp _ _, _, _, _, h, _ => by unfold chA at h; cases h
  | .par _ _ _ _, _, _, _, h, _ => by unfold chA at h; cases h
  | .aug _ _ _, _, _, _, h, _ => by unfold chA at h; cases h
  | .put _ _ _ _ _, _, _, _, h, _ => by unfold chA at h; cases h
  | .fput _ _ _ _ _, _, _, _, h, _ => by unfold chA at h; cases h
  | .app _ _ _ _, _, _, _, h, _ => by unfold chA at h; cases h
  | .ext _ _ _, _, _, _, h, _ => by unfold chA at h; cases h
  | .clr _ _, _, _, _, h, _ => by unfold chA at h; cases h
  | .ini _ _, _, _, _, h, _ => by unfold chA at h; cases h
  | .retv _, _, _, _, h, _ => by unfold chA at h; cases h
  | .ret0, _, _, _, h, _ => by unfold chA at h; cases h
  | .whl _ _, _, _, _, h, _ => by unfold chA at h; cases h
  | .for_ _ _ _, _, _, _, h, _ => by unfold chA at h; cases h
  | .brk, _, _, _, h, _ => by unfold chA at h; cases h
  | .cnt, _, _, _, h, _ => by unfold chA at h; cases h
  | .pas, _, _, _, h, _ => by unfold chA at h; cases h
  | .rai _ _, _, _, _, h, _ => by unfold chA at h; cases h
  | .frz _, _, _, _, h, _ => by unfold chA at h; cases h
  | .frzc _, _, _, _, h, _ => by unfold chA at h; cases h
  | .kil _, _, _, _, h, _ => by unfold chA at h; cases h
  | .never, _, _, _, h, _ => by unfold chA at h; cases h
  | .try_ _ _, _, _, _, h, _ => by unfold chA at h; cases h
theorem csAs : ∀ (cs : List Cm) (sts : List Stmt) (X : Cx) (K : CT), chAs K cs sts = true → CtxS n G X K → SCAs n G X np sts cs
  | [], sts, X, K, h, C => by
    cases sts with
    | nil => exact scas_nil
    | cons _ _ => unfold chAs at h; cases h
  | c :: cs, sts, X, K, h, C => by
    unfold chAs at h
    split at h
    · next st =>
      rw [Bool.and_eq_true] at h
      exact scas_one (csA c st _ _ h.1 C) (csG cs h.2) (gh_noex cs h.2)
    · cases h
theorem csG : ∀ (cs : List Cm), cs.all isGh = true → ∀ {X : Cx}, SCs n G X np [] cs
  | [], _, X => scs_nil
  | c :: cs, h, X => by
    rw [List.all_cons, Bool.and_eq_true] at h
    have ih := csG cs h.2 (X := X)
    have hg := h.1
    cases c <;> first | (cases hg; done) | exact scs_frz ih | exact scs_frzc ih | exact scs_kil ih
theorem csH : ∀ (hs : Hd) (hds : List ExceptHandler) (X : Cx) (K : CT), chH K hs hds = true → CtxS n G X K → HdOk n G X np hds hs
  | .nil, hds, X, K, h, C => by
    cases hds with
    | nil => exact True.intro
    | cons _ _ => unfold chH at h; cases h
  | .cons c o su hs, hds, X, K, h, C => by
    unfold chH at h
    split at h
    · next x p no body p2 hds =>
      simp only [Bool.and_eq_true, decide_eq_true_eq, Bool.not_eq_true'] at h
      obtain ⟨⟨⟨⟨⟨⟨⟨h1, h2⟩, h3⟩, h4⟩, h5⟩, h6⟩, h7⟩, h8⟩ := h
      cases body with
      | nil => cases h6
      | cons b₀ body =>
        refine ⟨⟨x, p, b₀, body, rfl, rfl, by rw [h1, ← C.nt]; rfl, by rw [← C.nt] at h2; exact h2, gl_of C.sc h3, (sp_of h4).1, ?_, fun a pn => csSs su _ _ _ h7 (C.suite a pn)⟩, csH hs hds _ _ h8 C⟩
        cases no with
        | none =>
          cases o with
          | none => exact True.intro
          | some i => cases h5
        | some m =>
          cases o with
          | none => cases h5
          | some i =>
            have h5 : (decide (K.N[i]? = some m) && decide (K.sc.names.lookup m = some .local)) = true := h5
            rw [Bool.and_eq_true, decide_eq_true_eq, decide_eq_true_eq] at h5
            exact ⟨by rw [C.N]; exact h5.1, by show X.env.scope.names.lookup m = _; rw [C.sc]; exact h5.2⟩
    · cases h
theorem csSs : ∀ (cs : List Cm) (sts : List Stmt) (X : Cx) (K : CT), chSs K cs sts = true → CtxS n G X K → SCs n G X np sts cs
  | [], sts, X, K, h, C => by
    cases sts with
    | nil => exact scs_nil
    | cons _ _ => cases h
  | c :: cs, sts, X, K, h, C => by
    unfold chSs at h
    split at h
    · next hg =>
      cases c <;> first | (cases hg; done) | exact scs_frz (csSs cs sts _ _ h C) | exact scs_frzc (csSs cs sts _ _ h C) | exact scs_kil (csSs cs sts _ _ h C)
    · cases sts with
      | nil => cases h
      | cons st sts =>
        simp only [Bool.and_eq_true] at h
        exact scs_cons (csS c st _ _ h.1 C) (csSs cs sts _ _ h.2 C)
end
end
end GS

namespace GS
open PySem PySem.Spec PyProof.Rows L2

/-! ## a module, run by levels -/
/-- a def's text, and where it stands -/
structure DT where
  x : Str
  qual : Str
  params : Arguments
  body : List Stmt
  scope : Scope
  dvs : List V
  ps : List Str
  N : List Str
structure Mo (n : Env') (T : TB) (dt : Nat → DT) (mg : Str → Option Value) (base : Heap) : Prop where
  defs : ∀ f df, T.defs f = some df → (∃ fd, FunD n.c.K (dt f).x (dt f).qual (dt f).params (dt f).body (dt f).scope (dt f).dvs [] (n.fa f) fd ∧ ∀ j, j ≤ (dt f).dvs.length → ∃ ds, Vals ((dt f).dvs.drop j) ds ∧ Binds n.c.K fd (dt f).ps ds) ∧
    FnScope (dt f).N (dt f).ps (dt f).scope ∧ (dt f).ps.length = df.np ∧ (dt f).N.length = df.ns ∧ df.dfl.map D.v = (dt f).dvs.map some ∧ chSs ⟨n.nt, (dt f).N, (dt f).scope, fun _ => true, true⟩ df.code (dt f).body = true
  xcE : ∀ k, n.c.xc k = xcB T.sub k
  xfE : n.xf = T.xf
  xm : ∀ e c, xcB T.sub e = true → xcB T.sub c = true → PySem.W.exmOne n.c.K (.ref (n.c.ca e)) (.ref (n.c.ca c)) = some (decide (c ∈ T.sub e))
  xk : ∀ c, xcB T.sub c = true → ExK n.c.K (n.c.ca c) ∧ PySem.W.kitOne n.c.K (.ref (n.c.ca c)) (.type "ValueError") = some true
  xt : ∀ c, xcB T.sub c = true → T.xf c = [] → ExT n.c.K (n.c.ca c)
  xi : ∀ c, xcB T.sub c = true → T.xf c ≠ [] → OexC n.c.K (n.c.ca c) ∧ ∃ (fI : Addr) (fd : FuncData) (ps : List Str), PySem.W.findIn n.c.K (.ref (n.c.ca c)) "__init__" = some (some (.ref fI)) ∧ PySem.W.typeIn n.c.K (.ref fI) = some (.type "function") ∧
    (∀ (P : Program) (w : World), FnOk P w n.c.K mg base (L2.CX P w) 1 fI fd ps (spX n.c.K (n.c.ca c) ((T.xf c).map n.c.an))) ∧ Binds n.c.K fd ps []
  nxm : ∀ k m f, T.meth k m = some f → n.c.xc k = false
  nxi : ∀ k f, T.init k = some f → n.c.xc k = false
  cls : ∀ k m f, T.meth k m = some f → Cls n.c.K (n.c.ca k) ∧ Meth n.c.K (n.c.ca k) (n.c.an m) (n.fa f)
  mki : ∀ k f, T.init k = some f → Mk n.c.K (n.c.ca k) (n.fa f)
  bas : ∀ k f, T.init k = some f → BInit n.c.K (n.c.ca k) (n.fa f)
  glb : ∀ g, n.gn g ≠ "" → ∃ u v, mg (n.gn g) = some u ∧ RelV v u ∧ (T.glob g).v = some v
  fok : ∀ k f, T.fok k f = true → if n.c.xc k = true then PySem.W.findIn n.c.K (.ref (n.c.ca k)) (n.c.an f) = some none else Cls n.c.K (n.c.ca k) ∧ NoAttr n.c.K (n.c.ca k) (n.c.an f)
  fnm : ∀ f, n.okf f = true → mg (n.fn f) = some (.ref (n.fa f)) ∧ PySem.W.keepIn n.c.K (.ref (n.fa f)) = true
  cnm : ∀ k, n.okc k = true → mg (n.cn k) = some (.ref (n.c.ca k)) ∧ PySem.W.keepIn n.c.K (.ref (n.c.ca k)) = true
  free : ∀ x ∈ (["len", "abs", "min", "max", "any", "all", "str", "int", "list", "tuple", "dict", "sorted", "isinstance", "bool", "range", "enumerate", "zip", "reversed", "set", "ValueError"] : List Str), mg x = none
  ity : ∀ k, T.sub k ≠ [] → (n.c.xc k = false → Cls n.c.K (n.c.ca k)) ∧ PySem.W.findIn n.c.K (.ref (n.c.ca k)) "__class__" = some (some (.builtin "object.__class__")) ∧ PySem.W.mroIn n.c.K (n.c.ca k) (.type "object") = some true ∧
    (∀ T ∈ ["int", "bool", "str", "list", "tuple", "dict"], PySem.W.kitOne n.c.K (.ref (n.c.ca k)) (.type T) = some false) ∧ ∀ c, n.okc c = true → PySem.W.kitOne n.c.K (.ref (n.c.ca k)) (.ref (n.c.ca c)) = some (decide (c ∈ T.sub k))
  itk : (∃ k, T.sub k ≠ []) → PySem.W.specialIn n.c.K (.builtin "object.__class__") "__get__" = some (some (.builtin "getset_descriptor.__get__")) ∧ PySem.W.takesIn n.c.K (.builtin "object.__class__") = some true
  itb : ∀ T ∈ ["NoneType", "bool", "int", "str", "list", "tuple", "dict"], ∀ c, n.okc c = true → PySem.W.kitOne n.c.K (.type T) (.ref (n.c.ca c)) = some false
  inj : ∀ f g, n.c.an f = n.c.an g → f = g

section
variable {n : Env'} {T : TB} {dt : Nat → DT} {mg : Str → Option Value} {base : Heap} {P : Program} {w : World}
/-- a def at a level does what run says -/
def Lv (n : Env') (dt : Nat → DT) (mg : Str → Option Value) (base : Heap) (P : Program) (w : World) (k : Nat) (r : Nat → List D → RO) : Prop := ∀ f as, r f as ≠ .stuck → ∃ (fd : FuncData) (dvs : List V) (ds : List Value) (sp : Sp), FnOk P w n.c.K mg base (L2.CX P w) k (n.fa f) fd (dt f).ps sp ∧
  PySem.W.keepIn n.c.K (.ref (n.fa f)) = true ∧ Vals dvs ds ∧ Binds n.c.K fd (dt f).ps ds ∧ ∀ vs H Q E, SpC n (r f as) as vs H Q E → sp (vs ++ dvs) H Q E
theorem relA_app {c : RC} {M : MM} {H : Hp} : ∀ {as bs : List D} {vs us : List V} {l : List Addr}, RepA c M H as vs l → RepA c M H bs us [] → RepA c M H (as ++ bs) (vs ++ us) l
  | [], _, _, _, _, h, h' => by rw [h.1, h.2]; exact h'
  | d :: ds, bs, vs, us, l, h, h' => by
    obtain ⟨v, vs', l1, l2, e, r1, r2, hl⟩ := h
    exact ⟨v, vs' ++ us, l1, l2, by rw [e]; rfl, r1, relA_app r2 h', hl⟩
theorem relA_dfl {c : RC} {M : MM} {H : Hp} : ∀ {ds : List D} {us : List V}, ds.map D.v = us.map some → RepA c M H ds us [] ∧ ∀ d ∈ ds, d.md ≠ .vw ∧ d.md ≠ .own
  | [], us, h => by
    have : us = [] := by simpa using h.symm
    subst this
    exact ⟨⟨rfl, rfl⟩, (fun _ z => nomatch z)⟩
  | d :: ds, [], h => by simp at h
  | d :: ds, u :: us, h => by
    simp only [List.map_cons, List.cons.injEq] at h
    obtain ⟨i1, i2⟩ := relA_dfl (c := c) (M := M) (H := H) h.2
    have hd : Rep c M H d u [] ∧ d.md ≠ .vw ∧ d.md ≠ .own := by
      cases d with
      | non => cases h.1; exact ⟨⟨rfl, rfl⟩, by simp [D.md], by simp [D.md]⟩
      | bl b => cases h.1; exact ⟨⟨rfl, rfl⟩, by simp [D.md], by simp [D.md]⟩
      | int b => cases h.1; exact ⟨⟨rfl, rfl⟩, by simp [D.md], by simp [D.md]⟩
      | str b => cases h.1; exact ⟨⟨rfl, rfl⟩, by simp [D.md], by simp [D.md]⟩
      | _ => cases h.1
    exact ⟨⟨u, us, [], [], rfl, hd.1, i1, rfl⟩, fun x hx => by
      rcases List.mem_cons.mp hx with e | hx
      · rw [e]; exact hd.2
      · exact i2 x hx⟩
/-- the own lists of the arguments, by slots -/
theorem args_own {c : RC} {M : MM} {H : Hp} : ∀ {as : List D} {vs : List V} {l : List Addr}, RepA c M H as vs l → l.Nodup → ∃ L : Nat → List Addr, (∀ i d, as[i]? = some d → ∃ v, vs[i]? = some v ∧ Rep c M H d v (L i)) ∧ (∀ i, (L i).Nodup) ∧ (∀ i j a, a ∈ L i → a ∈ L j → i = j) ∧ (∀ i a, a ∈ L i → a ∈ l)
  | [], vs, l, h, nd => ⟨fun _ => [], by simp, fun _ => .nil, (fun _ _ _ z => nomatch z), (fun _ _ z => nomatch z)⟩
  | d :: ds, vs, l, h, nd => by
    obtain ⟨v, vs', l1, l2, rfl, r1, r2, rfl⟩ := h
    obtain ⟨n1, n2, n3⟩ := List.nodup_append.mp nd
    obtain ⟨L, h1, h2, h3, h4⟩ := args_own r2 n2
    refine ⟨fun i => match i with
      | 0 => l1
      | i + 1 => L i, fun i x hx => ?_, fun i => ?_, fun i j a ha hb => ?_, fun i a ha => ?_⟩
    · cases i with
      | zero => cases hx; exact ⟨v, rfl, r1⟩
      | succ i => exact h1 i x (by simpa using hx)
    · cases i with
      | zero => exact n1
      | succ i => exact h2 i
    · cases i with
      | zero =>
        cases j with
        | zero => rfl
        | succ j => exact absurd rfl (n3 a ha a (h4 j a hb))
      | succ i =>
        cases j with
        | zero => exact absurd rfl (n3 a hb a (h4 i a ha))
        | succ j => rw [h3 i j a ha hb]
    · cases i with
      | zero => exact List.mem_append_left _ ha
      | succ i => exact List.mem_append_right _ (h4 i a ha)
/-- what the own arguments are in the end -/
theorem fins_rep {c : RC} {M : MM} {H : Hp} {L : Nat → List Addr} : ∀ {as : List D} {s : Sl} {vs : List V} (k : Nat), (∀ i d v, as[i]? = some d → vs[i]? = some v → d.md = .own → ∃ x, s[i]? = some (some x) ∧ Rep c M H x v (L (k + i))) → vs.length = as.length → (∀ i, (L i).Nodup) → (∀ i j a, a ∈ L i → a ∈ L j → i = j) →
    ∃ lf, RepF c M H (finsOf as s) vs lf ∧ lf.Nodup ∧ ∀ a ∈ lf, ∃ i, k ≤ i ∧ a ∈ L i
  | [], s, vs, k, h, hv, nd, dj => ⟨[], by unfold finsOf; rfl, .nil, (fun _ z => nomatch z)⟩
  | d :: ds, [], vs, k, h, hv, nd, dj => ⟨[], by unfold finsOf; rfl, .nil, (fun _ z => nomatch z)⟩
  | d :: ds, o :: s, [], k, h, hv, nd, dj => by simp at hv
  | d :: ds, o :: s, v :: vs, k, h, hv, nd, dj => by
    obtain ⟨lf, h1, h2, h3⟩ := fins_rep (as := ds) (s := s) (vs := vs) (L := L) (c := c) (M := M) (H := H) (k + 1) (fun i x u e1 e2 ho => by
      obtain ⟨y, e3, r⟩ := h (i + 1) x u (by simpa using e1) (by simpa using e2) ho
      exact ⟨y, by simpa using e3, by rw [show k + 1 + i = k + (i + 1) by omega]; exact r⟩) (by simpa using hv) nd dj
    unfold finsOf
    split
    · next ho =>
      obtain ⟨y, e3, r⟩ := h 0 d v rfl rfl ho
      have : o = some y := by simpa using e3
      subst this
      refine ⟨L k ++ lf, ⟨L k, lf, r, h1, rfl⟩, List.nodup_append.mpr ⟨nd k, h2, fun a ha b hb e => ?_⟩, fun a ha => ?_⟩
      · subst e
        obtain ⟨i, hi, hm⟩ := h3 a hb
        have := dj k i a ha hm
        omega
      · rcases List.mem_append.mp ha with ha | ha
        · exact ⟨k, Nat.le_refl _, ha⟩
        · obtain ⟨i, hi, hm⟩ := h3 a ha
          exact ⟨i, by omega, hm⟩
    · refine ⟨lf, h1, h2, fun a ha => ?_⟩
      obtain ⟨i, hi, hm⟩ := h3 a ha
      exact ⟨i, by omega, hm⟩
theorem StS.xx {M M1 M' : MM} {H H1 H' : Hp} (s : StS M H M1 H1) (x : StX M1 H1 M' H') : StSX M H M' H' := ⟨fun a ha hm => by
  obtain ⟨e1, e2⟩ := s.k a ha hm
  obtain ⟨k1, k2⟩ := x.k a (by rw [e1]; exact ha)
  exact ⟨KeepX.trans (.inl e1) k1, k2.trans e2⟩, fun a e => by
  have hn : H1 a ≠ none := by
    rcases s.o a e with q | q
    · exact s.d a (by rw [q]; simp)
    · exact s.d a (by rw [q]; simp)
  rw [(x.k a hn).2]
  exact s.o a e, x.d⟩
/-- from what a body comes to, to what a call promises -/
theorem body_post {M : MM} {H : Hp} {as : List D} {vs : List V} {Q : VK} {E : XK} {o : Out} {P0 : Nat → Option V} (hP : ∀ i d v, as[i]? = some d → vs[i]? = some v → d.md = .own → P0 i = some v) (hlen : vs.length = as.length)
    (h : PostRO n M H vs (o.toRO as) Q E) : PostS n P0 (fun cls d _ H' => E cls d H') M H { nx := fun _ H' => Q .non H', rt := Q } o := by
  have fin : ∀ {M' s σ H' L}, RelL n.c P0 M' s σ H' L → ∃ lf, RepF n.c M' H' (finsOf as s) vs lf ∧ lf.Nodup ∧ ∀ a ∈ lf, ∃ i, 0 ≤ i ∧ a ∈ L i := fun {M' s σ H' L} R => fins_rep (L := L) 0 (fun i d v e1 e2 ho => by
    obtain ⟨h1, x, h2, h3⟩ := R.par i v (hP i d v e1 e2 ho)
    obtain ⟨u, e3, r, _⟩ := R.at_ i x h2
    rw [h1] at e3
    cases e3
    rw [Nat.zero_add]
    exact ⟨x, h2, r⟩) hlen R.nd R.dj
  cases o with
  | nx s =>
    intro M' H' σ' L st R
    obtain ⟨lf, h1, h2, h3⟩ := fin R
    exact h .non M' H' [] lf rfl st ⟨rfl, rfl⟩ h1 (by simpa using h2)
  | rt d s =>
    intro M' H' σ' L v l hc st R r nd hd
    obtain ⟨lf, h1, h2, h3⟩ := fin R
    exact h v M' H' l lf hc st r h1 (List.nodup_append.mpr ⟨nd, h2, fun a ha b hb e => by
      subst e
      obtain ⟨i, _, hi⟩ := h3 a hb
      exact hd i a ha hi⟩)
  | bk s => exact False.elim h
  | ct s => exact False.elim h
  | ex c ds s =>
    intro M' H' σ' L st R dx M2 H2 x xr
    have h : PostRO n M H vs (if ds.all D.cl = true then .ex c ds [] else .stuck) Q E := h
    split at h
    · next hc => exact h dx M2 H2 [] hc (st.xx x) xr rfl .nil
    · exact False.elim h
  | stuck => exact False.elim h
/-- a body's context -/
theorem ctx_of {k : Nat} {r : (Nat → List D → RO) × (Nat → List D → RO)} (Mo_ : Mo n T dt mg base) {f : Nat} {df : Df} (hf : T.defs f = some df) (l1 : Lv n dt mg base P w k r.1) (l2 : ∀ f as, r.2 f as ≠ .stuck → ∃ j, k = j + 1 ∧ Lv n dt mg base P w j r.2)
    {cdv : Value} {A : Around} {outer : List Env} {s : Shared} {H : Hp} {E : XK} (hr : Room k (A.deeper (envOfC (dt f).qual (dt f).scope s.heap.objs.size (n.fa f) cdv))) :
    CtxS n (GEof T k r) (cxOf (L2.CX P w) P w n.c.K mg base (dt f).N (dt f).qual (dt f).scope (n.fa f) cdv A outer s H E) ⟨n.nt, (dt f).N, (dt f).scope, fun _ => true, true⟩ where
  F := { K := rfl, hu := by have := hr.un; show (A.deeper (envOfC (dt f).qual (dt f).scope s.heap.objs.size (n.fa f) cdv)).units + 64 < cLine; omega, nd := ((Mo_.defs f df hf).2.1).nd,
         call := fun _ g as h => by
           obtain ⟨fd, dvs, ds, sp, h1, h2, h3, h4, h5⟩ := l1 g as h
           exact ⟨k, fd, _, dvs, ds, sp, h1, hr, h2, h3, h4, h5⟩
         make := fun _ g as h => by
           obtain ⟨j, rfl, l⟩ := l2 g as h
           obtain ⟨fd, dvs, ds, sp, h1, h2, h3, h4, h5⟩ := l g as h
           exact ⟨j, fd, _, dvs, ds, sp, h1, hr, h3, h4, h5⟩
         xcE := Mo_.xcE
         xfE := fun c h => by
           show n.xf c = xfAt T k c
           rw [Mo_.xfE]
           unfold xfAt
           split
           · rfl
           · next hk => exact absurd (show xfAt T k c = [] by unfold xfAt; rw [if_neg hk]) h
         xm := Mo_.xm, xk := Mo_.xk, xt := fun c h1 h2 => Mo_.xt c h1 (by rw [← Mo_.xfE]; exact h2)
         xi := fun _ c h1 h2 => by
           have hk : 2 ≤ k := Nat.le_of_not_lt fun z => h2 (show xfAt T k c = [] by unfold xfAt; rw [if_neg (by omega)])
           have h3 : T.xf c ≠ [] := fun z => h2 (show xfAt T k c = [] by unfold xfAt; rw [if_pos hk]; exact z)
           obtain ⟨o, fI, fd, ps, i1, i2, i3, i4⟩ := Mo_.xi c h1 h3
           rw [Mo_.xfE]
           exact ⟨o, 1, fI, fd, ps, i1, i2, i3 P w, hr.mono hk, i4⟩
         nxm := Mo_.nxm, nxi := Mo_.nxi
         cls := Mo_.cls, mki := Mo_.mki, bas := Mo_.bas, glb := Mo_.glb, fok := Mo_.fok, fnm := Mo_.fnm, cnm := Mo_.cnm, free := Mo_.free, ity := Mo_.ity, itk := Mo_.itk, itb := Mo_.itb, inj := Mo_.inj }
  N := rfl
  sc := rfl
  fn := rfl
  nt := rfl
  pass := passes_of (X := cxOf (L2.CX P w) P w n.c.K mg base (dt f).N (dt f).qual (dt f).scope (n.fa f) cdv A outer s H E) (K := fun e s'' => L2.CX P w outer H s E e s'') (E₁ := fun e' s'' => L2.CX P w outer H s E e' s'') rfl
  kind := ((Mo_.defs f df hf).2.1).kind
  calm := fun _ => rfl
  stk := rfl
  frm := rfl
  exn := rfl
theorem start_at {N : List Str} {vs : List V} {i : Nat} (h : i < vs.length) : (L2.start N vs)[i]? = some (some vs[i]) := by
  unfold L2.start
  rw [List.getElem?_append_left (by simpa using h), List.getElem?_map, List.getElem?_eq_getElem h]
  rfl
theorem repF_none {c : RC} {M : MM} {H : Hp} : ∀ {bs : List D} {s : Sl} {us : List V} {lf : List Addr}, (∀ d ∈ bs, d.md ≠ .own) → RepF c M H (finsOf bs s) us lf → lf = []
  | [], s, us, lf, h, r => by unfold finsOf at r; unfold RepF at r; exact r
  | b :: bs, [], us, lf, h, r => by unfold finsOf at r; unfold RepF at r; exact r
  | b :: bs, o :: s, [], lf, h, r => by
    unfold finsOf at r
    rw [if_neg (h b (by simp))] at r
    exact r
  | b :: bs, o :: s, u :: us, lf, h, r => by
    unfold finsOf at r
    rw [if_neg (h b (by simp))] at r
    exact repF_none (fun d hd => h d (by simp [hd])) (show RepF c M H (finsOf bs s) us lf from r)
theorem repF_cut {c : RC} {M : MM} {H : Hp} {bs : List D} {us : List V} (h : ∀ d ∈ bs, d.md ≠ .own) : ∀ {as : List D} {s : Sl} {vs : List V} {lf : List Addr}, vs.length = as.length → RepF c M H (finsOf (as ++ bs) s) (vs ++ us) lf → RepF c M H (finsOf (as ++ bs) s) vs lf
  | [], s, vs, lf, hl, r => by
    have : vs = [] := List.eq_nil_of_length_eq_zero hl
    subst this
    have e := repF_none h r
    subst e
    cases hf : finsOf ([] ++ bs) s with
    | nil => rfl
    | cons o fs => cases o <;> rfl
  | a :: as, [], vs, lf, hl, r => r
  | a :: as, o :: s, [], lf, hl, r => by simp at hl
  | a :: as, o :: s, v :: vs, lf, hl, r => by
    have e : finsOf (a :: as ++ bs) (o :: s) = (if a.md = .own then o else none) :: finsOf (as ++ bs) s := rfl
    rw [e] at r ⊢
    cases hq : (if a.md = .own then o else none : Option D) with
    | none =>
      rw [hq] at r
      exact repF_cut h (as := as) (by simpa using hl) (show RepF c M H (finsOf (as ++ bs) s) (vs ++ us) lf from r)
    | some d =>
      rw [hq] at r
      obtain ⟨l1, l2, h1, h2, h3⟩ := r
      exact ⟨l1, l2, h1, repF_cut h (as := as) (by simpa using hl) h2, h3⟩
/-- the __init__ of an exception with fields, looked at -/
def xinB (ps : List Str) (sc : Scope) (fs : List Str) (xB : Str) : List Stmt → Bool
  | .Expr (.Call (.Attribute (.Name x _) mn apos) [.Name s _, .Constant (.str _) _ _] [] cpos) _ :: rest => decide (x = xB) && decide (mn = ("__init__" : Str)) && glB sc x && notSp x && decide (ps[0]? = some s) && decide (sc.names.lookup s = some .local) && notSp s && lineB apos cpos && decide (fs.length ≤ 800) && !fs.isEmpty && asgB ps sc s 1 fs rest
  | _ => false
theorem xin_run {X : Cx} {fs : List Str} {xB : Str} {B a C : Addr} {body : List Stmt} {σ : L2.St} {H : Hp} {ws : List V} {D : Ends} (hB : xinB X.N X.env.scope fs xB body = true) (hmg : X.mg xB = some (.ref B)) (TB_ : BInitV X.K B) (T : OexC X.K C) (hno : ∀ f ∈ fs, PySem.W.findIn X.K (.ref C) f = some none)
    (s0 : σ[0]? = some (some (.ref a))) (hl : fs.length = ws.length) (hσ : ∀ i v, ws[i]? = some v → σ[1 + i]? = some (some v)) (ha : H a = some (exo a C none)) (q : ∀ d, H d = none → d ≠ a → D.nx σ (upd (upd H d (exd d (fs.zip ws).reverse)) a (exo a C (some d)))) : WSs X body D σ H := by
  unfold xinB at hB
  split at hB
  · next x p1 mn apos s p2 m j p3 cpos pos rest =>
    simp only [Bool.and_eq_true, decide_eq_true_eq, Bool.not_eq_true'] at hB
    obtain ⟨⟨⟨⟨⟨⟨⟨⟨⟨⟨rfl, rfl⟩, h3⟩, h4⟩, h5⟩, h6⟩, h7⟩, h8⟩, h9⟩, h10⟩, h11⟩ := hB
    obtain ⟨n1, n2⟩ := sp_of h7
    have hpa : PA X [.Name s p2, .Constant (.str m) j p3] (tCons (tVar 0) (tCons (tC (.str m)) tNil)) := pa_cons (pe_var (by exact h5) (.inl h6) n1 n2) (pa_cons pe_str pa_nil rfl) (okE_star (e := .Name s p2) rfl _ _)
    have hg : Gl X x := by
      unfold glB at h3
      rw [decide_eq_true_eq] at h3
      exact h3
    refine ⟨_, pss_cons (ps_expr (pe_gei hg hmg (sp_of h4).1 TB_ hpa (fun q hq => ?_) (by simp) h8) rfl) wss, ?_⟩
    · rcases List.mem_cons.mp hq with e | hq
      · rw [e]; rfl
      · rw [List.mem_singleton.mp hq]; rfl
    refine ⟨.ref a, s0, a, C, [.str m], rfl, by simp, T, ha, ?_⟩
    cases fs with
    | nil => cases h10
    | cons f fs =>
      cases ws with
      | nil => cases hl
      | cons w ws =>
        unfold asgB at h11
        cases rest with
        | nil => cases h11
        | cons st rest =>
          dsimp only at h11
          rw [Bool.and_eq_true] at h11
          obtain ⟨hA, hR⟩ := h11
          unfold asg1 at hA
          split at hA
          · next s' q1 g q2 y q3 q4 =>
            simp only [Bool.and_eq_true, decide_eq_true_eq, Bool.not_eq_true'] at hA
            obtain ⟨⟨⟨⟨⟨rfl, rfl⟩, hx⟩, hl1⟩, hl2⟩, hl3⟩ := hA
            have pa := pe_var (X := X) (pos := q3) hx (.inl hl1) hl2 hl3
            have pb := pe_var (X := X) (pos := q1) h5 (.inl h6) n1 n2
            refine ⟨_, pss_cons (ps_ost pb pa rfl) wss, w, by have := hσ 0 w rfl; simpa using this, .ref a, s0, a, C, rfl, T, hno _ (by simp), .inl ⟨ha, fun d hd hda => ?_⟩⟩
            refine asg_run h5 h6 n1 n2 rfl T s0 hda rest 2 fs ws [(g, w)] hR (fun f hf => hno f (by simp [hf])) (by simpa using hl) (fun i v hi => by have := hσ (i + 1) v (by simpa using hi); rwa [show 2 + i = 1 + (i + 1) by omega]) (by simp at h9 ⊢; omega) ?_
            have := q d hd hda
            rw [show ((g :: fs).zip (w :: ws)).reverse = (fs.zip ws).reverse ++ [(g, w)] by simp] at this
            exact this
          · cases hA
  · cases hB
theorem xin_fn {K : PySem.W.Frag} {mg : Str → Option Value} {base : Heap} {x qual xB : Str} {params : Arguments} {body : List Stmt} {scope : Scope} {fI B C : Addr} {fd : FuncData} {ps fs : List Str} (FD : FunD K x qual params body scope [] [] fI fd) (S : FnScope ps ps scope) (hB : xinB ps scope fs xB body = true)
    (hmg : mg xB = some (.ref B)) (TB_ : BInitV K B) (T : OexC K C) (hno : ∀ f ∈ fs, PySem.W.findIn K (.ref C) f = some none) (hps : ps.length = fs.length + 1) (P : Program) (w : World) : FnOk P w K mg base (L2.CX P w) 1 fI fd ps (spX K C fs) := by
  refine FD.ok S (fun vs H Q E h => by rw [h.1, hps]) (fun cdv A outer s H vs Q E hr h => ?_)
  obtain ⟨hl, a, ws, rfl, ha, q⟩ := h
  refine ⟨_, wss, ?_⟩
  refine xin_run (fs := fs) (ws := ws) (a := a) (C := C) hB hmg TB_ T hno (start_at (N := ps) (vs := .ref a :: ws) (i := 0) (by simp)) (by simp at hl; omega) (fun i v hi => ?_) ha q
  have hlt := (List.getElem?_eq_some_iff.mp hi)
  obtain ⟨h1, h2⟩ := hlt
  rw [start_at (N := ps) (vs := .ref a :: ws) (i := 1 + i) (by simp; omega)]
  congr 2
  rw [← h2]
  simp [Nat.add_comm 1 i]
theorem fn_lv {k : Nat} {r : (Nat → List D → RO) × (Nat → List D → RO)} (Mo_ : Mo n T dt mg base) (l1 : Lv n dt mg base P w k r.1) (l2 : ∀ f as, r.2 f as ≠ .stuck → ∃ j, k = j + 1 ∧ Lv n dt mg base P w j r.2) {f : Nat} {df : Df} (hf : T.defs f = some df) {fd : FuncData}
    (FD : FunD n.c.K (dt f).x (dt f).qual (dt f).params (dt f).body (dt f).scope (dt f).dvs [] (n.fa f) fd) {as : List D} (hlen : as.length = df.np) : FnOk P w n.c.K mg base (L2.CX P w) (k + 1) (n.fa f) fd (dt f).ps (fun vs H Q E => SpC n (runDf (GEof T k r) whileV df as) as vs H Q E) := by
  obtain ⟨_, S, hps, hN, hdfl, hchk⟩ := Mo_.defs f df hf
  refine FD.ok S (fun vs H Q E h => ?_) (fun cdv A outer s H vs Q E hr h => ?_)
  · obtain ⟨M, l, ra, _⟩ := h
    rw [ra.len, hlen, hps]
  · obtain ⟨M, l, ra, hm, nd, dm, post⟩ := h
    have C := ctx_of (f := f) (df := df) (P := P) (w := w) (cdv := cdv) (A := A) (outer := outer) (s := s) (H := H) (E := E) Mo_ hf l1 l2 hr
    have sc := csSs (np := df.np) df.code (dt f).body _ _ hchk C
    obtain ⟨L, h1, h2, h3, h4⟩ := args_own ra nd
    have hvl : vs.length = (as).length := ra.len
    have hpl : (dt f).ps.length ≤ (dt f).N.length := by have := congrArg List.length S.pre; rw [List.length_take] at this; omega
    refine ⟨_, wss, ?_⟩
    refine sc (fun cls d _ H' => E cls d H') ?_ (fun i => match (as)[i]? with
      | some d => if d.md = .own then vs[i]? else none
      | none => none) (fun i v e => ?_) M (startS df (as)) (L2.start (dt f).N vs) H L _ ⟨?_, dm, fun i d e => ?_, h2, h3, fun i a ha => RepA.own ra a (h4 i a ha), fun i v e => ?_⟩ ?_
    · exact takes_of (X := cxOf (L2.CX P w) P w n.c.K mg base (dt f).N (dt f).qual (dt f).scope (n.fa f) cdv A outer s H E) (E := E) (E₁ := fun e' s'' => L2.CX P w outer H s E e' s'') rfl rfl rfl rfl
    · split at e
      · next d hd =>
        have := (List.getElem?_eq_some_iff.mp hd).1
        omega
      · cases e
    · unfold startS L2.start
      simp only [List.length_append, List.length_map, List.length_replicate]
      omega
    · unfold startS at e
      by_cases hi : i < (as).length
      · rw [List.getElem?_append_left (by simpa using hi), List.getElem?_map, List.getElem?_eq_getElem hi] at e
        have e : (as)[i] = d := by simpa using e
        obtain ⟨v, e1, rv⟩ := h1 i d (by rw [List.getElem?_eq_getElem hi, e])
        refine ⟨v, ?_, rv, hm d (by rw [← e]; exact List.getElem_mem hi)⟩
        have hi2 : i < vs.length := by omega
        rw [start_at hi2]
        rw [List.getElem?_eq_getElem hi2] at e1
        cases e1
        rfl
      · rw [List.getElem?_append_right (by simpa using hi)] at e
        rw [List.getElem?_replicate] at e
        split at e <;> cases e
    · split at e
      · next d hd =>
        split at e
        · next ho =>
          have hi2 := (List.getElem?_eq_some_iff.mp e).1
          refine ⟨?_, d, ?_, ho⟩
          · rw [start_at hi2, ← List.getElem?_eq_getElem hi2, e]
          · unfold startS
            have hi := (List.getElem?_eq_some_iff.mp hd).1
            rw [List.getElem?_append_left (by simpa using hi), List.getElem?_map, hd]
            rfl
        · cases e
      · cases e
    · refine body_post (as := as) (vs := vs) (fun i d v e1 e2 ho => ?_) hvl post
      rw [e1]
      dsimp only
      rw [if_pos ho, e2]
theorem lv_succ {k : Nat} {r : (Nat → List D → RO) × (Nat → List D → RO)} (Mo_ : Mo n T dt mg base) (l1 : Lv n dt mg base P w k r.1) (l2 : ∀ f as, r.2 f as ≠ .stuck → ∃ j, k = j + 1 ∧ Lv n dt mg base P w j r.2) :
    Lv n dt mg base P w (k + 1) (fun f ds => match T.defs f with
      | some df => if (fill df ds).length = df.np ∧ ds.length ≤ df.np then runDf (GEof T k r) whileV df (fill df ds) else .stuck
      | none => .stuck) := by
  intro f as hns
  dsimp only at hns
  cases hf : T.defs f with
  | none => rw [hf] at hns; exact absurd rfl hns
  | some df =>
    rw [hf] at hns
    dsimp only at hns
    split at hns
    rotate_left
    · exact absurd rfl hns
    next hlen =>
    obtain ⟨⟨fd, FD, hB⟩, S, hps, hN, hdfl, hchk⟩ := Mo_.defs f df hf
    have hdl : df.dfl.length = (dt f).dvs.length := by have := congrArg List.length hdfl; simpa using this
    obtain ⟨ds, hv, hb⟩ := hB (df.dfl.length - (df.np - as.length)) (by omega)
    refine ⟨fd, (dt f).dvs.drop (df.dfl.length - (df.np - as.length)), ds, fun vs H Q E => SpC n (runDf (GEof T k r) whileV df (fill df as)) (fill df as) vs H Q E, ?_, FD.kp, hv, hb, fun vs H Q E h => ?_⟩
    · exact fn_lv Mo_ l1 l2 hf FD hlen.1
    · obtain ⟨M, l, ra, hm, nd, dm, post⟩ := h
      have hrun : (match T.defs f with
        | some df => if (fill df as).length = df.np ∧ as.length ≤ df.np then runDf (GEof T k r) whileV df (fill df as) else .stuck
        | none => .stuck) = runDf (GEof T k r) whileV df (fill df as) := by
        rw [hf]; exact if_pos hlen
      have hd : (df.dfl.drop (df.dfl.length - (df.np - as.length))).map D.v = ((dt f).dvs.drop (df.dfl.length - (df.np - as.length))).map some := by
        rw [List.map_drop, hdfl, List.map_drop]
      obtain ⟨r1, r2⟩ := relA_dfl (c := n.c) (M := M) (H := H) hd
      refine ⟨M, l, relA_app ra r1, fun d hd => ?_, nd, dm, ?_⟩
      · rcases List.mem_append.mp hd with z | z
        · exact hm d z
        · exact (r2 d z).1
      · have post : PostRO n M H vs (runDf (GEof T k r) whileV df (fill df as)) Q E := hrun ▸ post
        unfold runDf at post ⊢
        cases ho : execs (GEof T k r) whileV df.np df.code (startS df (fill df as)) with
        | nx s => rw [ho] at post; exact fun v M' H' lr lf hc st rv rf nd => post v M' H' lr lf hc st rv (repF_cut (fun d hd => (r2 d hd).2) ra.len rf) nd
        | rt d s => rw [ho] at post; exact fun v M' H' lr lf hc st rv rf nd => post v M' H' lr lf hc st rv (repF_cut (fun d hd => (r2 d hd).2) ra.len rf) nd
        | bk s => rw [ho] at post; exact False.elim post
        | ct s => rw [ho] at post; exact False.elim post
        | ex c xs s =>
          rw [ho] at post
          have post : PostRO n M H vs (if xs.all D.cl = true then .ex c xs [] else .stuck) Q E := post
          show PostRO n M H _ (if xs.all D.cl = true then .ex c xs [] else .stuck) Q E
          split at post
          · next hc => rw [if_pos hc]; exact fun dx M' H' lf h1 st x rf nd => post dx M' H' lf h1 st x (by have : lf = [] := rf; exact this) nd
          · exact False.elim post
        | stuck => rw [ho] at post; exact False.elim post
end
end GS

namespace GS
open PySem PySem.Spec PyProof.Rows L2

section
variable {n : Env'} {T : TB} {dt : Nat → DT} {mg : Str → Option Value} {base : Heap} {P : Program} {w : World}
theorem lvs (Mo_ : Mo n T dt mg base) : ∀ k, Lv n dt mg base P w k (runs T whileV k).1 ∧ ∀ f as, (runs T whileV k).2 f as ≠ .stuck → ∃ j, k = j + 1 ∧ Lv n dt mg base P w j (runs T whileV k).2
  | 0 => ⟨fun f as h => absurd rfl h, fun f as h => absurd rfl h⟩
  | k + 1 => by
    obtain ⟨h1, h2⟩ := lvs Mo_ k
    exact ⟨lv_succ Mo_ h1 h2, fun f as h => ⟨k, rfl, h1⟩⟩
theorem fn_any {K : PySem.W.Frag} {CX : CXT} {k : Nat} {f : Addr} {fd : FuncData} {ps : List Str} {ι : Type} {p : ι → Prop} {sp : ι → Sp} (h : ∀ i, p i → FnOk P w K mg base CX k f fd ps (sp i)) : FnOk P w K mg base CX k f fd ps (fun vs H Q E => ∃ i, p i ∧ sp i vs H Q E) :=
  ⟨fun vs H Q E ⟨i, hp, q⟩ => (h i hp).len vs H Q E q, fun A outer s H args us vs Q E hr he hb hv ⟨i, hp, q⟩ => (h i hp).run A outer s H args us vs Q E hr he hb hv q⟩
/-- the script as the law sees it -/
def scriptD (ns : List Int) : D := .lst .br (ns.map .int)
theorem ints_rep {c : RC} {M : MM} {H : Hp} {p : Md} : ∀ ns : List Int, Reps c M H p (ns.map .int) (ns.map V.int) []
  | [] => ⟨rfl, rfl⟩
  | i :: ns => ⟨_, _, [], [], rfl, by cases p <;> rfl, ⟨rfl, rfl⟩, ints_rep ns, rfl⟩
/-- what the head asks of the law's promise -/
theorem script_sp {H : Hp} {a : Addr} {ns : List Int} {r : RO} (hO : Only H) (hS : SqL n.c.K H a (ns.map V.int)) (hr : r.val = .ok (.bl true)) : SpC n r [scriptD ns] [.ref a] H (fun v _ => v = .bl true) fun _ _ _ => False := by
  have post : ∀ M, PostRO n M H [.ref a] r (fun v _ => v = .bl true) fun _ _ _ => False := fun M => by
    cases r with
    | ret d f =>
      cases hr
      exact fun v M' H' lr lf _ _ rv _ _ => rv.1
    | ex c xs f => cases hr
    | stuck => cases hr
  have hmd : ∀ d ∈ [scriptD ns], d.md ≠ .vw := fun d hd => by
    have : d = scriptD ns := by simpa using hd
    rw [this]; simp [scriptD, D.md]
  rcases hS with hS | hS
  · obtain ⟨o, hf⟩ : ∃ o, H a = some (.frz o (.lst (ns.map V.int))) := by
      rcases hO a with z | ⟨o, xs, z⟩
      · rcases hS with q | ⟨o, q⟩ <;> (rw [z] at q; cases q)
      · rcases hS with q | ⟨o', q⟩
        · rw [z] at q; cases q
        · exact ⟨o', q⟩
    refine ⟨fun b => if b = a then some .br else none, [], ⟨.ref a, [], [], [], rfl, ⟨a, _, [], rfl, .inr ⟨rfl, .inr ⟨if_pos rfl, o, hf⟩⟩, ints_rep ns, rfl⟩, ⟨rfl, rfl⟩, rfl⟩, hmd, .nil, fun b hb => ?_, post _⟩
    by_cases z : b = a
    · rw [z, hf]; simp
    · dsimp only at hb
      rw [if_neg z] at hb
      exact absurd rfl hb
  · obtain ⟨o, its, k, h1, h2, h3, h4, h5, h6⟩ := hS
    exact ⟨fun _ => none, [], ⟨.ref a, [], [], [], rfl, ⟨a, _, [], rfl, .inr ⟨rfl, .inl ⟨o, its, k, h1, h2, fun _ => h3, h4, h5, h6⟩⟩, ints_rep ns, rfl⟩, ⟨rfl, rfl⟩, rfl⟩, hmd, .nil, fun b hb => absurd rfl hb, post _⟩
end

/-! ## tables of a law without classes -/
def frees : List Str := ["len", "abs", "min", "max", "any", "all", "str", "int", "list", "tuple", "dict", "sorted", "isinstance", "bool", "range", "enumerate", "zip", "reversed", "set", "ValueError"]
/-- a name's place in a table; behind it, other names -/
def nameAt (tbl : List Str) (i : Nat) : Str := match tbl[i]? with
  | some x => x
  | none => ⟨Array.replicate (i + 200) 35⟩
theorem nameAt_inj {tbl : List Str} (nd : tbl.Nodup) (hl : ∀ x ∈ tbl, x.cps.size < 200) (i j : Nat) (h : nameAt tbl i = nameAt tbl j) : i = j := by
  have big : ∀ {i}, tbl[i]? = none → (nameAt tbl i).cps.size = i + 200 := fun {i} e => by unfold nameAt; rw [e]; simp
  cases ei : tbl[i]? with
  | none =>
    cases ej : tbl[j]? with
    | none =>
      have := congrArg (fun x : Str => x.cps.size) h
      simp only [big ei, big ej] at this
      omega
    | some y =>
      have e2 : nameAt tbl j = y := by unfold nameAt; rw [ej]
      have := congrArg (fun x : Str => x.cps.size) h
      simp only [big ei, e2] at this
      have := hl y (List.mem_of_getElem? ej)
      omega
  | some x =>
    have e1 : nameAt tbl i = x := by unfold nameAt; rw [ei]
    cases ej : tbl[j]? with
    | none =>
      have := congrArg (fun x : Str => x.cps.size) h
      simp only [big ej, e1] at this
      have := hl x (List.mem_of_getElem? ei)
      omega
    | some y =>
      have e2 : nameAt tbl j = y := by unfold nameAt; rw [ej]
      rw [e1, e2] at h
      subst h
      exact nodup_ix nd ei ej
structure Tab where
  ds : List He.DefD
  dfs : List Df
  Ns : List (List Str)
  pss : List (List Str)
  an : List Str
def Tab.nt (t : Tab) : NT := ⟨fun f => match t.ds[f]? with
  | some d => d.name
  | none => "", fun _ => "", nameAt t.an, fun _ => "", fun f => decide (f < t.ds.length), fun _ => false, fun _ => []⟩
def Tab.n (t : Tab) (K : PySem.W.Frag) : Env' := ⟨⟨K, t.nt.an, fun _ => 0, fun _ => false⟩, fun _ => [], t.nt.fn, fun f => match t.ds[f]? with
  | some d => He.fAd K d.at_
  | none => 0, t.nt.cn, t.nt.gn, t.nt.okf, t.nt.okc⟩
def Tab.T (t : Tab) : TB := ⟨fun f => t.dfs[f]?, fun _ => .non, fun _ _ => none, fun _ => false, fun _ => [], fun _ => none, fun _ _ => false, fun _ => []⟩
def noPar : Arguments := { posonlyargs := [], args := [], vararg := none, kwonlyargs := [], kw_defaults := [], kwarg := none, defaults := [] }
def noSc : Scope := { kind := .function, names := [], isGenerator := false, isCoroutine := false }
def Tab.dt (t : Tab) (K : PySem.W.Frag) (f : Nat) : DT := match t.ds[f]? with
  | some d => ⟨d.name, d.qual, d.params, d.body, d.scope, d.dvs K, (t.pss[f]?).getD [], (t.Ns[f]?).getD []⟩
  | none => ⟨"", "", noPar, [], noSc, [], [], []⟩
def Tab.fa (t : Tab) : List He.Fa := frees.map He.Fa.free ++ t.ds.map fun d => He.Fa.glo d.name
def fscB (N ps : List Str) (sc : Scope) : Bool := decide (sc.kind = .function) && !sc.isCoroutine && !sc.isGenerator && decide N.Nodup && decide (N.take ps.length = ps) && (ps.all fun x => decide (sc.names.lookup x = some .local) || decide (sc.names.lookup x = some .cell)) && (sc.names.all fun y => !decide (y.2 = .free))
theorem fsc_of {N ps : List Str} {sc : Scope} (h : fscB N ps sc = true) : FnScope N ps sc := by
  unfold fscB at h
  simp only [Bool.and_eq_true, decide_eq_true_eq, Bool.not_eq_true', List.all_eq_true, Bool.or_eq_true, decide_eq_false_iff_not] at h
  obtain ⟨⟨⟨⟨⟨⟨h1, h2⟩, h3⟩, h4⟩, h5⟩, h6⟩, h7⟩ := h
  exact ⟨h1, h2, h3, h4, h5, h6, h7⟩
/-- one def's text fits its small syntax -/
def defB (nt : NT) (d : He.DefD) (df : Df) (N ps : List Str) : Bool := decide (ps.length = df.np) && decide (N.length = df.ns) && fscB N ps d.scope && decide (d.at_.2 = none) && decide (d.at_.1 = d.name) && chSs ⟨nt, N, d.scope, fun _ => true, true⟩ df.code d.body
def Tab.okAt (t : Tab) (f : Nat) : Bool := match t.ds[f]?, t.dfs[f]?, t.Ns[f]?, t.pss[f]? with
  | some d, some df, some N, some ps => defB t.nt d df N ps
  | _, _, _, _ => false
theorem mo_plain (t : Tab) {K : PySem.W.Frag} {h base : Heap} {mg : Str → Option Value} (X : K.In h) (G : h.Ns mainGlobals mg) (c : He.SaysD t.fa t.ds K) (hl : t.dfs.length = t.ds.length) (hok : ∀ f, f < t.ds.length → t.okAt f = true) (nd : t.an.Nodup) (hz : ∀ x ∈ t.an, x.cps.size < 200)
    (hd : ∀ d ∈ t.ds, d.dfl = [] ∧ d.kwd = []) (hdf : ∀ df ∈ t.dfs, df.dfl = [])
    (hB : ∀ (f : Nat) (d : He.DefD) (ps : List Str), t.ds[f]? = some d → t.pss[f]? = some ps → ∀ (kV doc pm : Value) (an : Option Addr) (cdv ct : Value) (us : List Value), us.length = ps.length → bindArgs (PySem.W.fnOf d.name d.qual d.params d.body d.scope .none kV doc pm an cdv ct) ⟨us, []⟩ = pure (ps.zip us)) :
    Mo (t.n K) t.T (t.dt K) mg base where
  defs := fun f df hf => by
    have hf : t.dfs[f]? = some df := hf
    have hlt : f < t.ds.length := by rw [← hl]; exact (List.getElem?_eq_some_iff.mp hf).1
    have ed : t.ds[f]? = some t.ds[f] := List.getElem?_eq_getElem hlt
    have ok := hok f hlt
    unfold Tab.okAt at ok
    rw [ed, hf] at ok
    cases eN : t.Ns[f]? with
    | none => rw [eN] at ok; cases ok
    | some N =>
      cases ep : t.pss[f]? with
      | none => rw [eN, ep] at ok; cases ok
      | some ps =>
        rw [eN, ep] at ok
        dsimp only at ok
        unfold defB at ok
        simp only [Bool.and_eq_true, decide_eq_true_eq] at ok
        obtain ⟨⟨⟨⟨⟨o1, o2⟩, o3⟩, o4⟩, o5⟩, o6⟩ := ok
        obtain ⟨q1, q2⟩ := hd _ (List.getElem_mem hlt)
        obtain ⟨fd, FD⟩ := c.def_ f ed
        have ev : t.ds[f].dvs K = [] := by unfold He.DefD.dvs; rw [q1]; rfl
        have ek : t.ds[f].kws K = [] := by unfold He.DefD.kws; rw [q2]; rfl
        rw [ek] at FD
        have e1 : t.dt K f = ⟨t.ds[f].name, t.ds[f].qual, t.ds[f].params, t.ds[f].body, t.ds[f].scope, [], ps, N⟩ := by
          unfold Tab.dt
          rw [ed, eN, ep]
          dsimp only
          rw [ev]
          rfl
        have e2 : (t.n K).fa f = He.fAd K t.ds[f].at_ := by
          show (match t.ds[f]? with
            | some d => He.fAd K d.at_
            | none => 0) = _
          rw [ed]
        rw [e1]
        rw [ev] at FD
        refine ⟨⟨fd, by rw [e2]; exact FD, fun j hj => ⟨[], ?_, ?_⟩⟩, fsc_of o3, o1, o2, ?_, o6⟩
        · simp
          exact .nil
        · exact FD.bindsN (hB f _ ps ed ep)
        · rw [hdf df (List.mem_of_getElem? hf)]; rfl
  xcE := fun _ => rfl
  xfE := rfl
  xm := fun e c h => by cases h
  xk := fun c h => by cases h
  xt := fun c h => by cases h
  xi := fun c h => by cases h
  nxm := fun k m f h => by cases h
  nxi := fun k f h => by cases h
  cls := fun k m f h => by cases h
  mki := fun k f h => by cases h
  bas := fun k f h => by cases h
  glb := fun g h => absurd rfl h
  fok := fun k f h => by cases h
  fnm := fun f h => by
    have hlt : f < t.ds.length := of_decide_eq_true h
    have ed : t.ds[f]? = some t.ds[f] := List.getElem?_eq_getElem hlt
    have ef : t.fa[frees.length + f]? = some (.glo t.ds[f].name) := by
      unfold Tab.fa
      rw [List.getElem?_append_right (by simp), List.length_map, Nat.add_sub_cancel_left, List.getElem?_map, ed]
      rfl
    have g := He.glo_ok X G (c.fact _ ef)
    have ok := hok f hlt
    unfold Tab.okAt at ok
    rw [ed] at ok
    obtain ⟨fd, FD⟩ := c.def_ f ed
    have e2 : (t.n K).fa f = He.fAd K t.ds[f].at_ := by
      show (match t.ds[f]? with
        | some d => He.fAd K d.at_
        | none => 0) = _
      rw [ed]
    have e3 : (t.n K).fn f = t.ds[f].name := by
      show (match t.ds[f]? with
        | some d => d.name
        | none => "") = _
      rw [ed]
    split at ok
    · next d df N ps h1 h2 h3 h4 =>
      cases h1
      unfold defB at ok
      simp only [Bool.and_eq_true, decide_eq_true_eq] at ok
      obtain ⟨⟨⟨⟨⟨o1, o2⟩, o3⟩, o4⟩, o5⟩, o6⟩ := ok
      have e4 : He.fAd K t.ds[f].at_ = He.ga K t.ds[f].name := by
        unfold He.fAd
        rw [o4, o5]
      rw [e2, e3, e4]
      refine ⟨g, ?_⟩
      have := FD.kp
      rw [e4] at this
      exact this
    · cases ok
  cnm := fun k h => by cases h
  free := fun x hx => by
    obtain ⟨i, hi⟩ := List.getElem?_of_mem (show x ∈ frees from hx)
    have hlt := (List.getElem?_eq_some_iff.mp hi).1
    have ef : t.fa[i]? = some (.free x) := by
      unfold Tab.fa
      rw [List.getElem?_append_left (by rw [List.length_map]; exact hlt), List.getElem?_map, hi]
      rfl
    exact He.free_ok X G (c.fact _ ef)
  ity := fun k h => absurd rfl h
  itk := fun ⟨k, h⟩ => absurd rfl h
  itb := fun T _ c h => by cases h
  inj := nameAt_inj nd hz

/-! ## the law's def, the head -/
/-- the scripts -/
def Scr (ns : List Int) : Prop := ns.length ≤ 63 ∧ ∀ z ∈ ns, Builtin.Int.intBits z ≤ 1048576
def lawSp (n : Env') (T : TB) (k lw : Nat) : Sp := fun vs H Q E => ∃ ns : List Int, Scr ns ∧ SpC n ((runs T whileV (k + 1)).1 lw [scriptD ns]) [scriptD ns] vs H Q E
theorem law_fn {n : Env'} {T : TB} {dt : Nat → DT} {mg : Str → Option Value} {base : Heap} {P : Program} {w : World} {k lw : Nat} {df : Df} {fd : FuncData} (Mo_ : Mo n T dt mg base) (hf : T.defs lw = some df) (hnp : df.np = 1) (hd : df.dfl = [])
    (FD : FunD n.c.K (dt lw).x (dt lw).qual (dt lw).params (dt lw).body (dt lw).scope (dt lw).dvs [] (n.fa lw) fd) : FnOk P w n.c.K mg base (L2.CX P w) (k + 1) (n.fa lw) fd (dt lw).ps (lawSp n T k lw) := by
  obtain ⟨l1, l2⟩ := lvs (P := P) (w := w) Mo_ k
  refine fn_any fun ns _ => ?_
  have e : (runs T whileV (k + 1)).1 lw [scriptD ns] = runDf (GEof T k (runs T whileV k)) whileV df [scriptD ns] := by
    show (match T.defs lw with
      | some df => if (fill df [scriptD ns]).length = df.np ∧ [scriptD ns].length ≤ df.np then runDf (GEof T k (runs T whileV k)) whileV df (fill df [scriptD ns]) else .stuck
      | none => .stuck) = _
    rw [hf]
    have ef : fill df [scriptD ns] = [scriptD ns] := by unfold fill; rw [hd]; simp
    dsimp only
    rw [ef, if_pos ⟨by rw [hnp]; rfl, by rw [hnp]; exact Nat.le_refl _⟩]
  rw [e]
  exact fn_lv Mo_ l1 l2 hf FD (by rw [hnp]; rfl)
theorem law_sp {n : Env'} {T : TB} {k lw : Nat} (math : ∀ ns, Scr ns → ((runs T whileV (k + 1)).1 lw [scriptD ns]).val = .ok (.bl true)) {H : Hp} {a : Addr} {ns : List Int} (hs : Scr ns) (hO : Only H) (hS : SqL n.c.K H a (ns.map V.int)) :
    lawSp n T k lw [.ref a] H (fun v _ => v = .bl true) fun _ _ _ => False := ⟨ns, hs, script_sp hO hS (math ns hs)⟩
theorem walk_ofG {l : PySem.W.OpenLaw} {k : Nat} {q : Program} {loose : List Str} {XP : (Str → Option Value) → Heap → Prop} {YP : World → Heap → Prop} {d : DefRec} {x : Str}
    (hn : l.most = some 63) (hdf : d.params.defaults = []) (hr : Room k callerA)
    (F : ∀ (w : World) (mg : Str → Option Value) (fa : Addr) (h : Heap), YP w h → h.Ns mainGlobals mg → mg d.name = some (.ref fa) →
      ∃ (K : PySem.W.Frag) (fd : FuncData) (sp : Sp), K.In h ∧ (∀ (s : Shared) (u : Value), BindsTo s fd ⟨[u], []⟩ [(x, u)]) ∧
        (∀ (H : Hp) (a : Addr) (ns : List Int), Scr ns → Only H → SqL K H a (ns.map V.int) → sp [.ref a] H (fun v _ => v = .bl true) fun _ _ _ => False) ∧
        ∀ base : Heap, K.In base → base.Ns mainGlobals mg → FnOk l.prog w K mg base (L2.CX l.prog w) k fa fd [x] sp) :
    PySem.W.WalkO q loose XP YP l.row.toRowW d [] (fun f vs => PySem.call f vs) := by
  refine Att.attach_callB hn hdf fun w s₀ s₁ mg mb fa o pm cd doc a vs ns G Y ho hd hcd hmg hobj hints hlen hbits hg => ?_
  obtain ⟨K, fd, sp, KX, hb, hsp, hF⟩ := F w mg fa _ Y G.T.g hmg
  exact law_call KX G.T.g G.T.b G.T.builtins G.T.nolimit hg hobj hints (Nat.le_trans hlen (by decide)) hr hF hb (fun H hO hS => hsp H a ns ⟨hlen, hbits⟩ hO hS) fun H e s' c => by
    obtain ⟨_, _, _, _, _, _, _, _, _, _, _, _, z⟩ := c
    exact z
end GS

namespace GS
open PySem PySem.Spec PyProof.Rows L2

/-! ## running the small syntax: rows for simp -/
section
variable {G : GE} {W : (Sl → Sl ⊕ Out) → Sl → Out} {np : Nat} {s : Sl}
@[simp] theorem e_cst {d : D} : evalE G (.cst d) s = .ok d := by rw [evalE]
@[simp] theorem e_var {i : Nat} : evalE G (.var i) s = Res.ofOpt (s[i]?).join := by
  rw [evalE]
  cases s[i]? with
  | none => rfl
  | some o => cases o <;> rfl
@[simp] theorem e_op {o : Bop} {a b : Tm} : evalE G (.op o a b) s = (evalE G a s).bind fun x => (evalE G b s).bind fun y => vBop o x y := by rw [evalE]
@[simp] theorem e_neg {a : Tm} : evalE G (.neg a) s = (evalE G a s).bind vNeg := by rw [evalE]
@[simp] theorem e_cmp {o : Cop} {a b : Tm} : evalE G (.cmp o a b) s = (evalE G a s).bind fun x => (evalE G b s).bind fun y => (vCop o x y).bind fun r => .ok (.bl r) := by rw [evalE]
@[simp] theorem e_and {es : List Tm} : evalE G (.and es) s = (evalAnd G es s).bind fun b => .ok (.bl b) := by rw [evalE]
@[simp] theorem e_or {es : List Tm} : evalE G (.or es) s = (evalOr G es s).bind fun b => .ok (.bl b) := by rw [evalE]
@[simp] theorem e_not {a : Tm} : evalE G (.not a) s = (evalE G a s).bind fun x => (vBl x).bind fun b => .ok (.bl (!b)) := by rw [evalE]
@[simp] theorem e_ife {c a b : Tm} : evalE G (.ife c a b) s = (evalE G c s).bind fun x => (vTru x).bind fun r => if r = true then evalE G a s else evalE G b s := by rw [evalE]
@[simp] theorem e_fld {a : Tm} {f : Nat} : evalE G (.fld a f) s = (evalE G a s).bind (vFld G.fok f) := by rw [evalE]
@[simp] theorem e_ix {a b : Tm} : evalE G (.ix a b) s = (evalE G a s).bind fun x => (evalE G b s).bind fun y => vIx x y := by rw [evalE]
@[simp] theorem e_slc {a : Tm} {lo hi : Option Tm} : evalE G (.slc a lo hi) s = (evalE G a s).bind fun x => (evalO G lo s).bind fun l => (evalO G hi s).bind fun h => vSlc x l h := by rw [evalE]
@[simp] theorem e_lst {es : List Tm} : evalE G (.lst es) s = (evalL G es s).bind fun ds => Res.guard (ds.all D.cl && decide (ds.length ≤ sizeLine)) (.ok (.lst .own ds)) := by rw [evalE]
@[simp] theorem e_tup {es : List Tm} : evalE G (.tup es) s = (evalL G es s).bind fun ds => Res.guard (ds.all D.cl && decide (ds.length ≤ sizeLine)) (.ok (.tup .own ds)) := by rw [evalE]
@[simp] theorem e_cal {f : Nat} {es : List Tm} : evalE G (.cal f es) s = (evalL G es s).bind fun ds => (G.call f (ds.map D.arg)).val := by rw [evalE]
@[simp] theorem e_blt {b : Blt} {es : List Tm} : evalE G (.blt b es) s = (evalL G es s).bind fun ds => vBlt b ds := by rw [evalE]
@[simp] theorem e_isi {a : Tm} {k : Isi} : evalE G (.isi a k) s = (evalE G a s).bind fun x => (vIsi G.sub k x).bind fun r => .ok (.bl r) := by rw [evalE]
@[simp] theorem l_nil : evalL G [] s = .ok [] := by rw [evalL]
@[simp] theorem l_cons {t : Tm} {ts : List Tm} : evalL G (t :: ts) s = (evalE G t s).bind fun d => (evalL G ts s).bind fun ds => .ok (d :: ds) := by rw [evalL]
@[simp] theorem o_none : evalO G none s = .ok none := by rw [evalO]
@[simp] theorem o_some {t : Tm} : evalO G (some t) s = (evalE G t s).bind fun d => (vInt d).bind fun i => .ok (some i) := by rw [evalO]
@[simp] theorem a_nil : evalAnd G [] s = .ok true := by rw [evalAnd]
@[simp] theorem a_cons {t : Tm} {ts : List Tm} : evalAnd G (t :: ts) s = (evalE G t s).bind fun d => (vBl d).bind fun b => if b = true then evalAnd G ts s else .ok false := by rw [evalAnd]
@[simp] theorem r_nil : evalOr G [] s = .ok false := by rw [evalOr]
@[simp] theorem r_cons {t : Tm} {ts : List Tm} : evalOr G (t :: ts) s = (evalE G t s).bind fun d => (vBl d).bind fun b => if b = true then .ok true else evalOr G ts s := by rw [evalOr]
@[simp] theorem i_seq {st : Bool} {a : Tm} : evalI G st (.seq a) s = (evalE G a s).bind fun x => Res.guard (walkOk st x) (vSeq x) := by rw [evalI]
@[simp] theorem i_rng1 {st : Bool} {a : Tm} : evalI G st (.rng1 a) s = (evalE G a s).bind fun x => (vInt x).bind fun n => Res.guard (small62 n) (.ok (rangeD 0 n.toNat)) := by rw [evalI]
@[simp] theorem i_rng2 {st : Bool} {a b : Tm} : evalI G st (.rng2 a b) s = (evalE G a s).bind fun x => (vInt x).bind fun m => (evalE G b s).bind fun y => (vInt y).bind fun n => Res.guard (small62 m && small62 n) (.ok (rangeD m (n - m).toNat)) := by rw [evalI]
@[simp] theorem x_nil : execs G W np [] s = .nx s := by rw [execs]
@[simp] theorem x_cons {c : Cm} {cs : List Cm} : execs G W np (c :: cs) s = (exec G W np c s).bind fun s' => execs G W np cs s' := by rw [execs]
@[simp] theorem x_set {i : Nat} {t : Tm} : exec G W np (.set i t) s = Out.ofRes s (evalE G t (viewS s)) fun d => ofOpt (setS np i d s) := by rw [exec]
@[simp] theorem x_ret {t : Tm} : exec G W np (.ret t) s = Out.ofRes s (evalE G t (viewS s)) fun d => if d.cl = true then .rt d s else .stuck := by rw [exec]
@[simp] theorem x_retv {i : Nat} : exec G W np (.retv i) s = Out.ofRes s (Res.ofOpt (s[i]?).join) fun d => if (d.cl && decide (np ≤ i)) = true then .rt d (s.set i none) else .stuck := by
  rw [exec]
  cases s[i]? with
  | none => rfl
  | some o => cases o <;> rfl
@[simp] theorem x_ite {c : Tm} {a b : List Cm} : exec G W np (.ite c a b) s = Out.ofRes s ((evalE G c (viewS s)).bind vTru) fun r => if r = true then execs G W np a s else execs G W np b s := by rw [exec]
@[simp] theorem x_whl {c : Tm} {b : List Cm} : exec G W np (.whl c b) s = W (fun s => toStep s ((evalE G c (viewS s)).bind vTru) (fun s => execs G W np b s)) s := by rw [exec]
@[simp] theorem x_for {g : Tg} {it : Itr} {b : List Cm} : exec G W np (.for_ g it b) s = Out.ofRes s (evalI G true it (viewS s)) fun ds => forL (bindS np g) (fun s => execs G W np b s) ds s := by rw [exec]
@[simp] theorem x_brk : exec G W np .brk s = .bk s := by rw [exec]
@[simp] theorem x_cnt : exec G W np .cnt s = .ct s := by rw [exec]
@[simp] theorem x_pas : exec G W np .pas s = .nx s := by rw [exec]
@[simp] theorem view_nil : viewS [] = [] := rfl
@[simp] theorem view_some {d : D} {s : Sl} : viewS (some d :: s) = some (d.own2 .vw) :: viewS s := rfl
@[simp] theorem view_none {s : Sl} : viewS (none :: s) = none :: viewS s := rfl
@[simp] theorem own2_int {m : Md} {i : Int} : D.own2 m (.int i) = .int i := rfl
@[simp] theorem own2_bl {m : Md} {i : Bool} : D.own2 m (.bl i) = .bl i := rfl
@[simp] theorem own2_non {m : Md} : D.own2 m .non = .non := rfl
@[simp] theorem own2_str {m : Md} {i : Str} : D.own2 m (.str i) = .str i := rfl
@[simp] theorem own2_lbr {m : Md} {ds : List D} : D.own2 m (.lst .br ds) = .lst .br ds := rfl
@[simp] theorem own2_lfz {m : Md} {ds : List D} : D.own2 m (.lst .fz ds) = .lst .fz ds := rfl
@[simp] theorem own2_lown {m : Md} {ds : List D} : D.own2 m (.lst .own ds) = .lst m (D.own2s m ds) := rfl
@[simp] theorem own2s_ints {m : Md} (ns : List Int) : D.own2s m (ns.map D.int) = ns.map D.int := by rw [own2s_map, List.map_map]; rfl
@[simp] theorem arg_int {i : Int} : D.arg (.int i) = .int i := rfl
@[simp] theorem arg_bl {i : Bool} : D.arg (.bl i) = .bl i := rfl
@[simp] theorem arg_non : D.arg .non = .non := rfl
@[simp] theorem arg_str {i : Str} : D.arg (.str i) = .str i := rfl
@[simp] theorem arg_lbr {ds : List D} : D.arg (.lst .br ds) = .lst .br ds := rfl
@[simp] theorem cl_int {i : Int} : D.cl (.int i) = true := rfl
@[simp] theorem cl_bl {i : Bool} : D.cl (.bl i) = true := rfl
@[simp] theorem cl_non : D.cl .non = true := rfl
@[simp] theorem cl_str {i : Str} : D.cl (.str i) = true := rfl
@[simp] theorem nv_int {i : Int} : notVw (.int i) = true := rfl
@[simp] theorem nv_bl {i : Bool} : notVw (.bl i) = true := rfl
@[simp] theorem nv_non : notVw .non = true := rfl
@[simp] theorem nv_str {i : Str} : notVw (.str i) = true := rfl
@[simp] theorem md_int {i : Int} : D.md (.int i) = .fz := rfl
@[simp] theorem md_bl {i : Bool} : D.md (.bl i) = .fz := rfl
@[simp] theorem md_non : D.md .non = .fz := rfl
@[simp] theorem md_str {i : Str} : D.md (.str i) = .fz := rfl
@[simp] theorem b_add {i j : Int} : vBop .add (.int i) (.int j) = .ok (.int (i + j)) := rfl
@[simp] theorem b_sub {i j : Int} : vBop .sub (.int i) (.int j) = .ok (.int (i - j)) := rfl
@[simp] theorem b_mul {i j : Int} : vBop .mul (.int i) (.int j) = Res.guard (mulOk i j) (.ok (.int (i * j))) := rfl
theorem divOk_of {j : Int} (h0 : 0 < j) (h : j < 18446744073709551616) : divOk j = true := by
  unfold divOk
  have e : j.natAbs.log2 < 9000 := by
    have h1 : j.natAbs < 2 ^ 64 := by omega
    have h2 : j.natAbs ≠ 0 := by omega
    have := (Nat.log2_lt h2).mpr h1
    omega
  simp [e]; omega
@[simp] theorem b_fdiv {i j : Int} (h0 : 0 < j) (h : j < 18446744073709551616) : vBop .fdiv (.int i) (.int j) = .ok (.int (i.fdiv j)) := by
  show Res.guard (divOk j) _ = _
  rw [divOk_of h0 h]; rfl
@[simp] theorem b_mod {i j : Int} (h0 : j ≠ 0) : vBop .mod (.int i) (.int j) = .ok (.int (i.fmod j)) := by
  show Res.guard (decide (j ≠ 0)) _ = _
  rw [decide_eq_true h0]; rfl
@[simp] theorem n_int {i : Int} : vNeg (.int i) = .ok (.int (-i)) := rfl
@[simp] theorem q_int {i j : Int} : vEq (.int i) (.int j) = .ok (decide (i = j)) := rfl
@[simp] theorem c_eq {x y : D} : vCop .eq x y = vEq x y := by cases x <;> cases y <;> rfl
@[simp] theorem c_ne {x y : D} : vCop .ne x y = (vEq x y).bind fun b => .ok (!b) := by cases x <;> cases y <;> rfl
@[simp] theorem c_lt {i j : Int} : vCop .lt (.int i) (.int j) = .ok (decide (i < j)) := rfl
@[simp] theorem c_le {i j : Int} : vCop .le (.int i) (.int j) = .ok (decide (i ≤ j)) := rfl
@[simp] theorem c_gt {i j : Int} : vCop .gt (.int i) (.int j) = .ok (decide (j < i)) := rfl
@[simp] theorem c_ge {i j : Int} : vCop .ge (.int i) (.int j) = .ok (decide (j ≤ i)) := rfl
@[simp] theorem t_bl {b : Bool} : vTru (.bl b) = .ok b := rfl
@[simp] theorem t_int {i : Int} : vTru (.int i) = .ok (i != 0) := rfl
@[simp] theorem vbl_bl {b : Bool} : vBl (.bl b) = .ok b := rfl
@[simp] theorem vint_int {i : Int} : vInt (.int i) = .ok i := rfl
@[simp] theorem len_lst {m : Md} {ds : List D} : vBlt .len [.lst m ds] = .ok (.int ds.length) := rfl
@[simp] theorem abs_int {i : Int} : vBlt .abs [.int i] = .ok (.int (if i < 0 then -i else i)) := rfl
@[simp] theorem ix_lst {m : Md} {ds : List D} {i : Int} : vIx (.lst m ds) (.int i) = Res.ofOpt (atI ds i) := rfl
@[simp] theorem toRO_rt {as : List D} {d : D} : (Out.rt d s).toRO as = .ret d (finsOf as s) := rfl
@[simp] theorem toRO_nx {as : List D} : (Out.nx s).toRO as = .ret .non (finsOf as s) := rfl
@[simp] theorem run_eq {df : Df} {as : List D} : runDf G W df as = (execs G W df.np df.code (startS df as)).toRO as := rfl
theorem call_eq {T : TB} {k f : Nat} {df : Df} {as : List D} (h : T.defs f = some df) (hl : as.length = df.np) (hd : df.dfl = []) : (runs T whileV (k + 1)).1 f as = runDf (GEof T k (runs T whileV k)) whileV df as := by
  show (match T.defs f with
      | some df => if (fill df as).length = df.np ∧ as.length ≤ df.np then runDf (GEof T k (runs T whileV k)) whileV df (fill df as) else .stuck
      | none => .stuck) = _
  rw [h]
  have e : fill df as = as := by unfold fill; rw [hd]; simp
  dsimp only
  rw [e, if_pos ⟨hl, Nat.le_of_eq hl⟩]
@[simp] theorem ge_call {T : TB} {k : Nat} {r : (Nat → List D → RO) × (Nat → List D → RO)} : (GEof T k r).call = r.1 := rfl
@[simp] theorem ge_sub {T : TB} {k : Nat} {r : (Nat → List D → RO) × (Nat → List D → RO)} : (GEof T k r).sub = T.sub := rfl
theorem view_c {o : Option D} {s : Sl} : viewS (o :: s) = o.map (D.own2 .vw) :: viewS s := rfl
theorem forL_inv {bnd : D → Sl → Option Sl} {body : Sl → Out} (P : Nat → Sl → Prop) : ∀ (ds : List D) (s : Sl) (i : Nat), P i s → (∀ i d s, d ∈ ds → P i s → ∃ s1 s2, bnd d s = some s1 ∧ body s1 = .nx s2 ∧ P (i + 1) s2) → ∃ s', forL bnd body ds s = .nx s' ∧ P (i + ds.length) s'
  | [], s, i, h, _ => ⟨s, rfl, h⟩
  | d :: ds, s, i, h, hs => by
    obtain ⟨s1, s2, h1, h2, h3⟩ := hs i d s (by simp) h
    obtain ⟨s', h4, h5⟩ := forL_inv P ds s2 (i + 1) h3 fun i x s hx => hs i x s (by simp [hx])
    refine ⟨s', ?_, by rw [List.length_cons, show i + (ds.length + 1) = i + 1 + ds.length by omega]; exact h5⟩
    unfold forL
    rw [h1]
    dsimp only
    rw [h2]
    exact h4
theorem cutD_map {α β : Type} (f : α → β) (xs : List α) (lo hi : Option Int) : cutD (xs.map f) lo hi = (cutD xs lo hi).map f := by
  unfold cutD; simp [List.map_take, List.map_drop]
theorem cls_ints (ns : List Int) : (ns.map D.int).all D.cl = true := by simp
@[simp] theorem slc_ints {m : Md} {ns : List Int} {lo hi : Option Int} : vSlc (.lst m (ns.map D.int)) lo hi = .ok (.lst .own ((cutD ns lo hi).map D.int)) := by
  show Res.guard _ _ = _
  rw [cutD_map, cls_ints, own2s_ints]; rfl
@[simp] theorem seq_ints {ns : List Int} : vSeq (.lst .own (ns.map D.int)) = .ok (ns.map D.int) := by
  show Res.ok _ = _
  rw [own2s_ints]
@[simp] theorem walk_own {st : Bool} {ds : List D} : walkOk st (.lst .own ds) = true := by cases st <;> rfl
@[simp] theorem walk_br {st : Bool} {ds : List D} : walkOk st (.lst .br ds) = true := by cases st <;> rfl
@[simp] theorem walk_fz {st : Bool} {ds : List D} : walkOk st (.lst .fz ds) = true := by cases st <;> rfl
theorem atI_ints {ns : List Int} {j : Nat} (h : j < ns.length) : atI (ns.map D.int) (j : Int) = some (.int ns[j]) := by
  have hj : ((j : Nat) : Int) < ((ns.map D.int).length : Nat) := by rw [List.length_map]; omega
  unfold atI ixN
  rw [if_pos (by omega), if_pos hj]
  simp [h]
theorem bits_lt {i : Int} {k : Nat} (h : i.natAbs < 2 ^ k) : Builtin.Int.intBits i ≤ k := by
  unfold Builtin.Int.intBits
  split
  · omega
  · next h0 =>
    have h0 : i ≠ 0 := by simpa using h0
    have := (Nat.log2_lt (by omega)).mpr h
    omega
theorem mulOk_l {i j : Int} (h : i.natAbs < 2 ^ 64) : mulOk i j = true := by
  have : Builtin.Int.intBits i ≤ 64 := bits_lt h
  unfold mulOk shortFactorBits
  rw [decide_eq_false (by omega)]
  rfl
theorem mulOk_r {i j : Int} (h : j.natAbs < 2 ^ 64) : mulOk i j = true := by
  have : Builtin.Int.intBits j ≤ 64 := bits_lt h
  unfold mulOk shortFactorBits
  rw [decide_eq_false (p := Builtin.Int.intBits j > 64) (by omega), Bool.and_false]
  rfl
theorem mulOk_b {i j : Int} {a b : Nat} (h1 : i.natAbs < 2 ^ a) (h2 : j.natAbs < 2 ^ b) (h : a + b ≤ 100000) : mulOk i j = true := by
  have e1 := bits_lt h1
  have e2 := bits_lt h2
  unfold mulOk Builtin.Int.intTooBig
  have : decide (((Builtin.Int.intBits i : Nat) : Int) + ((Builtin.Int.intBits j : Nat) : Int) > ((bitsLine : Nat) : Int)) = false := by
    apply decide_eq_false
    unfold bitsLine
    omega
  rw [this, Bool.and_false]
  rfl
end
end GS

namespace GS
open PySem PySem.Spec PyProof.Rows L2

/-! ## laws with classes -/
/-- the head's Hook with one more look -/
def obsX (xb : PySem.W.Frag → Bool) (fa : List He.Fa) (fn : List He.DefD) (K : PySem.W.Frag) : Bool × He.AlD := (xb K, He.obsD fa fn K)
def obsXG (n : Nat) (xb : PySem.W.Frag → Bool) (fa : List He.Fa) (fn : List He.DefD) (g : Addr → Option Obj) : Bool × He.AlD := obsX xb fa fn (He.frG g (cStatics :: He.asD g n))
def hookX (n : Nat) (xb : PySem.W.Frag → Bool) (fa : List He.Fa) (fn : List He.DefD) : PySem.W.Hook where
  α := Bool × He.AlD
  obs := fun s => obsXG n xb fa fn s.heap.get?
  val := fun _ => (true, He.valD fn)
  says := fun _ h => ∃ K : PySem.W.Frag, K.In h ∧ xb K = true ∧ He.SaysD fa fn K
  of := fun _ _ e => ⟨_, He.frG_in, congrArg Prod.fst e, congrArg Prod.snd e⟩
  keeps := fun _ _ _ ⟨K, hK, c⟩ k => ⟨K, PySem.W.Frag.In.keeps hK k, c⟩
theorem obsXG_eq {n : Nat} {xb : PySem.W.Frag → Bool} {fa : List He.Fa} {fn : List He.DefD} {g : Addr → Option Obj} {s : Shared} (h : ∀ a, g a = s.heap.get? a) : obsXG n xb fa fn g = (hookX n xb fa fn).obs s := by
  have e : g = s.heap.get? := funext h
  rw [e] <;> rfl
structure TC where
  ds : List He.DefD
  dfs : List Df
  Ns : List (List Str)
  pss : List (List Str)
  nf : Nat
  an : List Str
  cls : List Str
  meth : List (Nat × Nat × Nat)
  init : List (Nat × Nat)
  fok : List (Nat × Nat)
  sub : List (List Nat)
  frz : List Nat
  gl : List (Str × D)
  /-- exceptions: fields; the defs of their __init__ -/
  xf : List (List Nat)
  xin : List (Nat × Nat)
/-- the name of a constant -/
def TC.gnm (t : TC) (g : Nat) : Str := ((t.gl[g]?).map (·.1)).getD ""
def TC.gvl (t : TC) (g : Nat) : D := ((t.gl[g]?).map (·.2)).getD .non
/-- the module holds the constant -/
def gvOk (K : PySem.W.Frag) (p : Str × D) : Bool := decide (p.1 = ("" : Str)) || match PySem.W.nsIn K mainGlobals p.1, p.2 with
  | some (some (.int j _)), .int i => decide (j = i)
  | some (some (.str y _)), .str z => decide (y = z)
  | _, _ => false
def TC.nt (t : TC) : NT := ⟨fun f => match t.ds[f]? with
  | some d => d.name
  | none => "", fun k => (t.cls[k]?).getD "", nameAt t.an, t.gnm, fun f => decide (f < t.nf), fun k => !decide ((t.cls[k]?).getD "" = ("" : Str)), fun k => (t.xf[k]?).getD []⟩
def TC.ca (t : TC) (K : PySem.W.Frag) (k : Nat) : Addr := He.ga K ((t.cls[k]?).getD "")
def TC.fad (t : TC) (K : PySem.W.Frag) (f : Nat) : Addr := match t.ds[f]? with
  | some d => He.fAd K d.at_
  | none => 0
def TC.sb (t : TC) (k : Nat) : List Nat := (t.sub[k]?).getD []
def TC.n (t : TC) (K : PySem.W.Frag) : Env' := ⟨⟨K, t.nt.an, t.ca K, xcB t.sb⟩, t.nt.xf, t.nt.fn, t.fad K, t.nt.cn, t.nt.gn, t.nt.okf, t.nt.okc⟩
def TC.T (t : TC) : TB := ⟨fun f => t.dfs[f]?, t.gvl, fun k m => (t.meth.find? fun q => decide (q.1 = k) && decide (q.2.1 = m)).map (·.2.2), fun k => t.frz.any fun q => decide (q = k), fun k => (t.sub[k]?).getD [], fun k => (t.init.find? fun q => decide (q.1 = k)).map (·.2), fun k f => t.fok.any fun q => decide (q.1 = k) && decide (q.2 = f), t.nt.xf⟩
def TC.dt (t : TC) (K : PySem.W.Frag) (f : Nat) : DT := match t.ds[f]? with
  | some d => ⟨d.name, d.qual, d.params, d.body, d.scope, d.dvs K, (t.pss[f]?).getD [], (t.Ns[f]?).getD []⟩
  | none => ⟨"", "", noPar, [], noSc, [], [], []⟩
def TC.fa (t : TC) : List He.Fa := frees.map He.Fa.free ++ ((t.ds.take t.nf).map fun d => He.Fa.glo d.name) ++ (t.cls.filter fun x => !decide (x = ("" : Str))).map He.Fa.glo
/-- OexC, looked at -/
def oexB (K : PySem.W.Frag) (C : Addr) : Bool := (match K.lookup C with
  | some ⟨.type "type", _, .cls cd, sl⟩ => (match cd.mro, sl.toList with
    | .ref C2 :: bm, [_, _, _, _, some (.builtin b), _] => (b == "ValueError.__new__" && C2 == C) && (cd.hasDict && (PySem.HandSPX.refsVE bm && !cd.hasDel))
    | _, _ => false)
  | _ => false) && (decide (PySem.W.findIn K (.ref C) "__setattr__" = some (some (.builtin "object.__setattr__"))) && (decide (PySem.W.subIn K (.ref C) (.type "BaseException") = some true) && (decide (PySem.W.typeIn K (.ref C) = some (.type "type")) && PySem.W.keepIn K (.ref C))))
theorem oexB_ok {K : PySem.W.Frag} {C : Addr} (q : oexB K C = true) : OexC K C := by
  unfold oexB at q
  rw [Bool.and_eq_true] at q
  obtain ⟨q, r⟩ := q
  simp only [Bool.and_eq_true, decide_eq_true_eq] at r
  refine ⟨?_, r.1, r.2.1, r.2.2.1, r.2.2.2⟩
  split at q
  · rename_i dd cd sl ho
    split at q
    · rename_i C2 bm k0 k1 k2 k3 b k5 hm hs
      simp only [Bool.and_eq_true, Bool.not_eq_true', beq_iff_eq] at q
      obtain ⟨⟨rfl, rfl⟩, hdc, hbm, hdel⟩ := q
      obtain ⟨nm, bs, mro, ns, qn, hd, sn, sb, ab, col, dl⟩ := cd
      dsimp only at hm hdel hdc
      subst hm hdel hdc
      obtain ⟨l⟩ := sl
      simp only at hs
      subst hs
      exact ⟨nm, qn, ns, bs, bm, sn, sb, ab, col, dd, k0, k1, k2, k3, k5, ho, hbm⟩
    · cases q
  · cases q
/-- ExK, looked at -/
def exkB (K : PySem.W.Frag) (C : Addr) : Bool := decide (PySem.W.findIn K (.ref C) "__getattribute__" = some (some (.builtin "BaseException.__getattribute__"))) && (decide (PySem.W.findIn K (.ref C) "__getattr__" = some none) && (decide (PySem.W.subIn K (.ref C) (.type "BaseException") = some true) && (PySem.W.hasDictIn K C && (decide (PySem.W.typeIn K (.ref C) = some (.type "type")) && PySem.W.keepIn K (.ref C)))))
theorem exkB_ok {K : PySem.W.Frag} {C : Addr} (h : exkB K C = true) : ExK K C := by
  unfold exkB at h
  simp only [Bool.and_eq_true, decide_eq_true_eq] at h
  exact ⟨h.1, h.2.1, h.2.2.1, h.2.2.2.1, h.2.2.2.2.1, h.2.2.2.2.2⟩
def isValB (r : Option PySem.W.CFound) (b : String) : Bool := match r with
  | some (.val (.builtin g)) => decide (g = b)
  | _ => false
theorem isValB_eq {r : Option PySem.W.CFound} {b : String} (h : isValB r b = true) : r = some (.val (.builtin b)) := by
  unfold isValB at h
  split at h
  · rw [of_decide_eq_true h]
  · cases h
/-- the class above the exceptions -/
def gainE : Str := "GainError"
/-- an exception's __init__ -/
def TC.xiB (t : TC) (K : PySem.W.Frag) (q : Nat × Nat) : Bool := match t.ds[q.2]?, t.pss[q.2]? with
  | some d, some ps => oexB K (t.ca K q.1) && decide (PySem.W.findIn K (.ref (t.ca K q.1)) "__init__" = some (some (.ref (He.fAd K d.at_)))) && decide (PySem.W.typeIn K (.ref (He.fAd K d.at_)) = some (.type "function")) && d.dfl.isEmpty && fscB ps ps d.scope && xinB ps d.scope ((t.nt.xf q.1).map t.nt.an) gainE d.body && decide (ps.length = (t.nt.xf q.1).length + 1) &&
    ((t.nt.xf q.1).all fun f => decide (PySem.W.findIn K (.ref (t.ca K q.1)) (t.nt.an f) = some none)) && decide (gainE ∈ t.cls) && PySem.W.readsIn K (He.ga K gainE) (.type "type") && decide (PySem.W.specialIn K (.ref (He.ga K gainE)) "__getattribute__" = some (some (.builtin "type.__getattribute__"))) && isValB (PySem.W.findCls K (.ref (He.ga K gainE)) (.type "type") "__init__") "ValueError.__init__"
  | _, _ => false
/-- the exceptions' classes, looked at -/
def TC.xxB (t : TC) (K : PySem.W.Frag) : Bool :=
  (t.meth.all fun q => !xcB t.sb q.1) && (t.init.all fun q => !xcB t.sb q.1) &&
  ((List.range t.sub.length).all fun e => !xcB t.sb e || (exkB K (t.ca K e) && decide (PySem.W.kitOne K (.ref (t.ca K e)) (.type "ValueError") = some true) &&
    ((List.range t.sub.length).all fun c => !xcB t.sb c || decide (PySem.W.exmOne K (.ref (t.ca K e)) (.ref (t.ca K c)) = some (decide (c ∈ t.sb e)))) &&
    (if (t.nt.xf e).isEmpty = true then PySem.W.excIn K (t.ca K e) [.type "ValueError", .type "Exception", .type "BaseException", .type "object"] "ValueError.__new__" else (t.xin.any fun q => decide (q.1 = e))))) &&
  (t.xin.all fun q => t.xiB K q)
def kindsT : List String := ["int", "bool", "str", "list", "tuple", "dict"]
def kinds7 : List String := ["NoneType", "bool", "int", "str", "list", "tuple", "dict"]
def isVal (r : Option PySem.W.CFound) (f : Addr) : Bool := match r with
  | some (.val (.ref g)) => decide (g = f)
  | _ => false
theorem isVal_eq {r : Option PySem.W.CFound} {f : Addr} (h : isVal r f = true) : r = some (.val (.ref f)) := by
  unfold isVal at h
  split at h
  · rw [of_decide_eq_true h]
  · cases h
/-- what is looked at behind the top -/
def TC.xb (t : TC) (K : PySem.W.Frag) : Bool :=
  (t.gl.all fun p => gvOk K p) &&
  (t.meth.all fun q => decide (PySem.W.findIn K (.ref (t.ca K q.1)) (nameAt t.an q.2.1) = some (some (.ref (t.fad K q.2.2)))) && PySem.W.isFn K (.ref (t.fad K q.2.2)) && PySem.W.keepIn K (.ref (t.fad K q.2.2)) && (He.Fa.cls ((t.cls[q.1]?).getD "")).ok K) &&
  (t.init.all fun q => PySem.W.makesIn K (t.ca K q.1) && decide (PySem.W.findIn K (.ref (t.ca K q.1)) "__init__" = some (some (.ref (t.fad K q.2)))) && PySem.W.isFn K (.ref (t.fad K q.2)) && PySem.W.keepIn K (.ref (t.ca K q.1)) && PySem.W.readsIn K (t.ca K q.1) (.type "type") && decide (PySem.W.specialIn K (.ref (t.ca K q.1)) "__getattribute__" = some (some (.builtin "type.__getattribute__"))) && isVal (PySem.W.findCls K (.ref (t.ca K q.1)) (.type "type") "__init__") (t.fad K q.2) && PySem.W.keepIn K (.ref (t.fad K q.2))) &&
  (t.fok.all fun q => decide (PySem.W.findIn K (.ref (t.ca K q.1)) (nameAt t.an q.2) = some none) && (xcB t.sb q.1 || (He.Fa.cls ((t.cls[q.1]?).getD "")).ok K)) &&
  ((List.range t.cls.length).all fun k => !t.nt.okc k || PySem.W.keepIn K (.ref (t.ca K k))) &&
  ((List.range t.sub.length).all fun k => (t.sb k).isEmpty || (xcB t.sb k || (He.Fa.cls ((t.cls[k]?).getD "")).ok K) && decide (PySem.W.findIn K (.ref (t.ca K k)) "__class__" = some (some (.builtin "object.__class__"))) && decide (PySem.W.mroIn K (t.ca K k) (.type "object") = some true) &&
    (kindsT.all fun T => decide (PySem.W.kitOne K (.ref (t.ca K k)) (.type T) = some false)) && (List.range t.cls.length).all fun c => !t.nt.okc c || decide (PySem.W.kitOne K (.ref (t.ca K k)) (.ref (t.ca K c)) = some (decide (c ∈ t.sb k)))) &&
  (decide (PySem.W.specialIn K (.builtin "object.__class__") "__get__" = some (some (.builtin "getset_descriptor.__get__"))) && decide (PySem.W.takesIn K (.builtin "object.__class__") = some true)) &&
  (kinds7.all fun T => (List.range t.cls.length).all fun c => !t.nt.okc c || decide (PySem.W.kitOne K (.type T) (.ref (t.ca K c)) = some false)) &&
  t.xxB K
/-- one def's text fits its small syntax -/
def defC (nt : NT) (d : He.DefD) (df : Df) (N ps : List Str) : Bool := decide (ps.length = df.np) && decide (N.length = df.ns) && fscB N ps d.scope && chSs ⟨nt, N, d.scope, fun _ => true, true⟩ df.code d.body
def TC.okAt (t : TC) (f : Nat) : Bool := match t.ds[f]?, t.dfs[f]?, t.Ns[f]?, t.pss[f]? with
  | some d, some df, some N, some ps => defC t.nt d df N ps && (!(decide (f < t.nf)) || (decide (d.at_.2 = none) && decide (d.at_.1 = d.name)))
  | _, _, _, _ => false
theorem mo_cls (t : TC) {K : PySem.W.Frag} {h base : Heap} {mg : Str → Option Value} (X : K.In h) (G : h.Ns mainGlobals mg) (hx : t.xb K = true) (c : He.SaysD t.fa t.ds K) (hl : t.dfs.length = t.ds.length) (hnf : t.nf ≤ t.ds.length) (hok : ∀ f, f < t.ds.length → t.okAt f = true) (nd : t.an.Nodup) (hz : ∀ x ∈ t.an, x.cps.size < 200)
    (hsub : t.sub.length ≤ t.cls.length) (hd : ∀ d ∈ t.ds, d.kwd = []) (hdf : ∀ (f : Nat) (d : He.DefD) (df : Df), t.ds[f]? = some d → t.dfs[f]? = some df → df.dfl.map D.v = (d.dvs K).map some)
    (hB : ∀ (f : Nat) (d : He.DefD) (ps : List Str), t.ds[f]? = some d → t.pss[f]? = some ps → ∀ fd, FunD K d.name d.qual d.params d.body d.scope (d.dvs K) [] (He.fAd K d.at_) fd → ∀ j, j ≤ (d.dvs K).length → ∃ ds, Vals ((d.dvs K).drop j) ds ∧ Binds K fd ps ds) :
    Mo (t.n K) t.T (t.dt K) mg base := by
  unfold TC.xb at hx
  rw [Bool.and_eq_true] at hx
  obtain ⟨hx, xx⟩ := hx
  simp only [Bool.and_eq_true, List.all_eq_true, decide_eq_true_eq, List.mem_range] at hx
  obtain ⟨⟨⟨⟨⟨⟨⟨x0, x1⟩, x2⟩, x3⟩, x4⟩, x5⟩, x6⟩, x7⟩ := hx
  unfold TC.xxB at xx
  rw [Bool.and_eq_true, Bool.and_eq_true, Bool.and_eq_true] at xx
  obtain ⟨⟨⟨y1, y2⟩, y3⟩, y4⟩ := xx
  have okcLt : ∀ {k : Nat}, t.nt.okc k = true → k < t.cls.length := fun {k} h => by
    cases e : t.cls[k]? with
    | none =>
      have : t.nt.okc k = !decide ((t.cls[k]?).getD "" = ("" : Str)) := rfl
      rw [this, e] at h
      simp at h
    | some x => exact (List.getElem?_eq_some_iff.mp e).1
  have gloC : ∀ {x : Str}, x ∈ t.cls → x ≠ ("" : Str) → mg x = some (.ref (He.ga K x)) := fun {x} hx hne => by
    have hm : He.Fa.glo x ∈ t.fa := by
      unfold TC.fa
      refine List.mem_append_right _ (List.mem_map.mpr ⟨x, List.mem_filter.mpr ⟨hx, ?_⟩, rfl⟩)
      simpa using hne
    obtain ⟨i, hi⟩ := List.getElem?_of_mem hm
    exact He.glo_ok X G (c.fact i hi)
  have xlt : ∀ {e : Nat}, xcB t.sb e = true → e < t.sub.length := fun {e} h => by
    cases q : t.sub[e]? with
    | none =>
      have : t.sb e = [] := by show (t.sub[e]?).getD [] = []; rw [q]; rfl
      unfold xcB at h
      rw [this] at h
      simp at h
    | some x => exact (List.getElem?_eq_some_iff.mp q).1
  have xe : ∀ {e : Nat}, xcB t.sb e = true → exkB K (t.ca K e) = true ∧ PySem.W.kitOne K (.ref (t.ca K e)) (.type "ValueError") = some true ∧ (∀ c, xcB t.sb c = true → PySem.W.exmOne K (.ref (t.ca K e)) (.ref (t.ca K c)) = some (decide (c ∈ t.sb e))) ∧
      (if (t.nt.xf e).isEmpty = true then PySem.W.excIn K (t.ca K e) [.type "ValueError", .type "Exception", .type "BaseException", .type "object"] "ValueError.__new__" else (t.xin.any fun q => decide (q.1 = e))) = true := fun {e} h => by
    have q := List.all_eq_true.mp y3 e (List.mem_range.mpr (xlt h))
    rw [h] at q
    simp only [Bool.not_true, Bool.false_or, Bool.and_eq_true, decide_eq_true_eq] at q
    obtain ⟨⟨⟨q1, q2⟩, q3⟩, q4⟩ := q
    refine ⟨q1, q2, fun c hc => ?_, q4⟩
    have z := List.all_eq_true.mp q3 c (List.mem_range.mpr (xlt hc))
    rw [hc] at z
    simpa using z
  have fadE : ∀ {f : Nat} {d : He.DefD}, t.ds[f]? = some d → t.fad K f = He.fAd K d.at_ := fun {f d} e => by unfold TC.fad; rw [e]
  refine { defs := fun f df hf => ?_, xcE := fun _ => rfl, xfE := rfl, xm := fun e c h1 h2 => (xe h1).2.2.1 c h2, xk := fun c h => ⟨exkB_ok (xe h).1, (xe h).2.1⟩, xt := fun c h h0 => ?_, xi := fun c' h h0 => ?_, nxm := fun k m f h => ?_, nxi := fun k f h => ?_, cls := fun k m f h => ?_, mki := fun k f h => ?_, bas := fun k f h => ?_, glb := fun g h => ?_, fok := fun k f h => ?_, fnm := fun f h => ?_, cnm := fun k h => ?_, free := fun x hx => ?_, ity := fun k h => ?_, itk := fun _ => x6, itb := fun T hT c h => ?_, inj := nameAt_inj nd hz }
  · have hf : t.dfs[f]? = some df := hf
    have hlt : f < t.ds.length := by rw [← hl]; exact (List.getElem?_eq_some_iff.mp hf).1
    have ed : t.ds[f]? = some t.ds[f] := List.getElem?_eq_getElem hlt
    have ok := hok f hlt
    unfold TC.okAt at ok
    rw [ed, hf] at ok
    cases eN : t.Ns[f]? with
    | none => rw [eN] at ok; cases ok
    | some N =>
      cases ep : t.pss[f]? with
      | none => rw [eN, ep] at ok; cases ok
      | some ps =>
        rw [eN, ep] at ok
        dsimp only at ok
        unfold defC at ok
        simp only [Bool.and_eq_true, decide_eq_true_eq] at ok
        obtain ⟨⟨⟨⟨o1, o2⟩, o3⟩, o6⟩, _⟩ := ok
        obtain ⟨fd, FD⟩ := c.def_ f ed
        have ek : t.ds[f].kws K = [] := by unfold He.DefD.kws; rw [hd _ (List.getElem_mem hlt)]; rfl
        rw [ek] at FD
        have e1 : t.dt K f = ⟨t.ds[f].name, t.ds[f].qual, t.ds[f].params, t.ds[f].body, t.ds[f].scope, t.ds[f].dvs K, ps, N⟩ := by
          unfold TC.dt
          rw [ed, eN, ep]
          rfl
        rw [e1]
        exact ⟨⟨fd, by show FunD K _ _ _ _ _ _ _ (t.fad K f) fd; rw [fadE ed]; exact FD, hB f _ ps ed ep fd FD⟩, fsc_of o3, o1, o2, hdf f _ df ed hf, o6⟩
  · have h3 := (xe (show xcB t.sb c = true from h)).2.2.2
    have h0 : t.nt.xf c = [] := h0
    rw [h0] at h3
    exact h3
  · have h3 := (xe (show xcB t.sb c' = true from h)).2.2.2
    have h0 : t.nt.xf c' ≠ [] := h0
    rw [if_neg (by rw [List.isEmpty_iff]; exact h0)] at h3
    obtain ⟨⟨q1, q2⟩, hq, he⟩ := List.any_eq_true.mp h3
    have he : q1 = c' := of_decide_eq_true he
    subst he
    have hi := List.all_eq_true.mp y4 (q1, q2) hq
    unfold TC.xiB at hi
    split at hi
    · next d ps ed ep =>
      simp only [Bool.and_eq_true, decide_eq_true_eq, List.isEmpty_iff, List.all_eq_true] at hi
      obtain ⟨⟨⟨⟨⟨⟨⟨⟨⟨⟨⟨i1, i2⟩, i3⟩, i4⟩, i5⟩, i6⟩, i7⟩, i8⟩, i9⟩, i10⟩, i11⟩, i12⟩ := hi
      have T := oexB_ok i1
      obtain ⟨fd, FD⟩ := c.def_ q2 ed
      have ev : d.dvs K = [] := by unfold He.DefD.dvs; rw [i4]; rfl
      have ek : d.kws K = [] := by unfold He.DefD.kws; rw [hd d (List.mem_of_getElem? ed)]; rfl
      rw [ek] at FD
      obtain ⟨ds0, hv, hb⟩ := hB q2 d ps ed ep fd FD 0 (Nat.zero_le _)
      rw [ev] at hv FD
      have : ds0 = [] := by cases hv; rfl
      subst this
      refine ⟨T, He.fAd K d.at_, fd, ps, i2, i3, fun P w => ?_, hb⟩
      exact xin_fn FD (fsc_of i5) i6 (gloC i9 (by decide)) ⟨i10, i11, isValB_eq i12⟩ T (fun f hf => by
        obtain ⟨g, hg, e⟩ := List.mem_map.mp hf
        rw [← e]; exact i8 g hg) (by rw [List.length_map]; exact i7) P w
    · cases hi
  · obtain ⟨q, hq, e⟩ := Option.map_eq_some_iff.mp h
    have hm := List.mem_of_find?_eq_some hq
    have hp := List.find?_some hq
    simp only [Bool.and_eq_true, decide_eq_true_eq] at hp
    have := List.all_eq_true.mp y1 q hm
    rw [hp.1] at this
    exact (by simpa using this : xcB t.sb k = false)
  · obtain ⟨q, hq, e⟩ := Option.map_eq_some_iff.mp h
    have hm := List.mem_of_find?_eq_some hq
    have hp := List.find?_some hq
    simp only [decide_eq_true_eq] at hp
    have := List.all_eq_true.mp y2 q hm
    rw [hp] at this
    exact (by simpa using this : xcB t.sb k = false)
  · obtain ⟨q, hq, e⟩ := Option.map_eq_some_iff.mp h
    have hm := List.mem_of_find?_eq_some hq
    have hp := List.find?_some hq
    simp only [Bool.and_eq_true, decide_eq_true_eq] at hp
    obtain ⟨⟨⟨y1, y2⟩, y3⟩, y4⟩ := x1 q hm
    obtain ⟨h1, h2⟩ := hp
    subst h1 h2 e
    exact ⟨He.cls_ok y4, y1, y2, y3⟩
  · obtain ⟨q, hq, e⟩ := Option.map_eq_some_iff.mp h
    have hm := List.mem_of_find?_eq_some hq
    have hp := List.find?_some hq
    simp only [decide_eq_true_eq] at hp
    obtain ⟨⟨⟨⟨⟨⟨⟨y1, y2⟩, y3⟩, y4⟩, _⟩, _⟩, _⟩, _⟩ := x2 q hm
    subst hp e
    exact ⟨y1, y2, y3, y4⟩
  · obtain ⟨q, hq, e⟩ := Option.map_eq_some_iff.mp h
    have hm := List.mem_of_find?_eq_some hq
    have hp := List.find?_some hq
    simp only [decide_eq_true_eq] at hp
    obtain ⟨⟨⟨⟨⟨⟨⟨_, _⟩, _⟩, _⟩, y5⟩, y6⟩, y7⟩, y8⟩ := x2 q hm
    subst hp e
    exact ⟨y5, y6, isVal_eq y7, y8⟩
  · replace h : t.gnm g ≠ ("" : Str) := h
    unfold TC.gnm at h
    cases e : t.gl[g]? with
    | none => rw [e] at h; exact absurd rfl h
    | some p =>
      have hp := x0 p (List.mem_of_getElem? e)
      have hgn : (t.n K).gn g = p.1 := by show t.gnm g = _; unfold TC.gnm; rw [e]; rfl
      have hgv : t.T.glob g = p.2 := by show t.gvl g = _; unfold TC.gvl; rw [e]; rfl
      rw [hgn, hgv]
      rw [e] at h
      unfold gvOk at hp
      rw [Bool.or_eq_true, decide_eq_true_eq] at hp
      rcases hp with hp | hp
      · exact absurd hp h
      · split at hp
        · next j tk i e1 e2 => rw [e2, ← of_decide_eq_true hp]; exact ⟨_, .int j, PySem.W.mg_of X G e1, ⟨tk, rfl⟩, rfl⟩
        · next y tk z e1 e2 => rw [e2, ← of_decide_eq_true hp]; exact ⟨_, .str y, PySem.W.mg_of X G e1, ⟨tk, rfl⟩, rfl⟩
        · cases hp
  · obtain ⟨q, hm, hp⟩ := List.any_eq_true.mp (show (t.fok.any fun q => decide (q.1 = k) && decide (q.2 = f)) = true from h)
    simp only [Bool.and_eq_true, decide_eq_true_eq] at hp
    obtain ⟨y1, y2⟩ := x3 q hm
    obtain ⟨h1, h2⟩ := hp
    subst h1 h2
    rw [Bool.or_eq_true] at y2
    split
    · exact y1
    · next hc => exact ⟨He.cls_ok (y2.resolve_left hc), y1⟩
  · have hlt : f < t.nf := of_decide_eq_true h
    have hlt2 : f < t.ds.length := by omega
    have ed : t.ds[f]? = some t.ds[f] := List.getElem?_eq_getElem hlt2
    have ef : t.fa[frees.length + f]? = some (.glo t.ds[f].name) := by
      unfold TC.fa
      rw [List.getElem?_append_left (by simp; omega), List.getElem?_append_right (by simp), List.length_map, Nat.add_sub_cancel_left, List.getElem?_map, List.getElem?_take_of_lt hlt, ed]
      rfl
    have g := He.glo_ok X G (c.fact _ ef)
    have ok := hok f hlt2
    unfold TC.okAt at ok
    rw [ed] at ok
    obtain ⟨fd, FD⟩ := c.def_ f ed
    have e3 : (t.n K).fn f = t.ds[f].name := by
      show (match t.ds[f]? with
        | some d => d.name
        | none => "") = _
      rw [ed]
    split at ok
    · next d df N ps h1 h2 h3 h4 =>
      cases h1
      simp only [Bool.and_eq_true, decide_eq_true_eq, Bool.or_eq_true, Bool.not_eq_true', decide_eq_false_iff_not] at ok
      obtain ⟨o4, o5⟩ := ok.2.resolve_left fun z => z hlt
      have e4 : He.fAd K t.ds[f].at_ = He.ga K t.ds[f].name := by
        unfold He.fAd
        rw [o4, o5]
      have e2 : (t.n K).fa f = He.ga K t.ds[f].name := (fadE ed).trans e4
      rw [e2, e3]
      refine ⟨g, ?_⟩
      have := FD.kp
      rw [e4] at this
      exact this
    · cases ok
  · have hlt : k < t.cls.length := okcLt h
    have ed : t.cls[k]? = some t.cls[k] := List.getElem?_eq_getElem hlt
    have e0 : (t.cls[k]?).getD "" = t.cls[k] := by rw [ed]; rfl
    have hne : t.cls[k] ≠ ("" : Str) := by
      have h : (!decide ((t.cls[k]?).getD "" = ("" : Str))) = true := h
      rw [e0] at h
      simpa using h
    have g := gloC (List.getElem_mem hlt) hne
    have e1 : (t.n K).cn k = t.cls[k] := e0
    have e2 : (t.n K).c.ca k = He.ga K t.cls[k] := by
      show He.ga K ((t.cls[k]?).getD "") = _
      rw [e0]
    refine ⟨by rw [e1, e2]; exact g, ?_⟩
    have h : t.nt.okc k = true := h
    have := x4 k hlt
    rw [h] at this
    exact (by simpa using this : PySem.W.keepIn K (.ref (t.ca K k)) = true)
  · obtain ⟨i, hi⟩ := List.getElem?_of_mem (show x ∈ frees from hx)
    have hlt := (List.getElem?_eq_some_iff.mp hi).1
    have ef : t.fa[i]? = some (.free x) := by
      unfold TC.fa
      rw [List.getElem?_append_left (by simp; omega), List.getElem?_append_left (by rw [List.length_map]; exact hlt), List.getElem?_map, hi]
      rfl
    exact He.free_ok X G (c.fact _ ef)
  · have hk : k < t.sub.length := by
      cases e : t.sub[k]? with
      | none => exact absurd (show t.T.sub k = [] by show (t.sub[k]?).getD [] = []; rw [e]; rfl) h
      | some s => exact (List.getElem?_eq_some_iff.mp e).1
    have hne : (t.sb k).isEmpty = false := by
      cases e : (t.sb k).isEmpty with
      | false => rfl
      | true => exact absurd (List.isEmpty_iff.mp e) h
    have q := x5 k hk
    rw [hne] at q
    simp only [Bool.false_or, Bool.and_eq_true, decide_eq_true_eq, List.all_eq_true, List.mem_range, Bool.or_eq_true] at q
    obtain ⟨⟨⟨⟨y1, y2⟩, y3⟩, y4⟩, y5⟩ := q
    refine ⟨fun hx => He.cls_ok (y1.resolve_left (by rw [show xcB t.sb k = false from hx]; simp)), y2, y3, y4, fun c hc => ?_⟩
    have hc : t.nt.okc c = true := hc
    have z := y5 c (okcLt hc)
    rw [hc] at z
    exact (by simpa using z : PySem.W.kitOne K (.ref (t.ca K k)) (.ref (t.ca K c)) = some (decide (c ∈ t.sb k)))
  · have hc : t.nt.okc c = true := h
    have z := x7 T hT c (okcLt hc)
    rw [hc] at z
    exact (by simpa using z : PySem.W.kitOne K (.type T) (.ref (t.ca K c)) = some false)
end GS

namespace GS
open PySem PySem.Spec PyProof.Rows L2

/-! # the evaluator without modes: all data canonical (mode fz) -/
mutual
def D.er : D → D
  | .tup _ ds => .tup .fz (D.ers ds)
  | .lst _ ds => .lst .fz (D.ers ds)
  | .dic _ ks ds => .dic .fz ks (D.ers ds)
  | .ins _ c fs ds => .ins .fz c fs (D.ers ds)
  | .non => .non
  | .bl b => .bl b
  | .int i => .int i
  | .str x => .str x
def D.ers : List D → List D
  | [] => []
  | d :: ds => D.er d :: D.ers ds
end
theorem ers_map : ∀ ds, D.ers ds = ds.map D.er
  | [] => rfl
  | d :: ds => by show D.er d :: D.ers ds = _; rw [ers_map ds]; rfl
mutual
/-- children stand below fit parents -/
def D.wm : D → Bool
  | .tup m ds => D.wms m ds
  | .lst m ds => D.wms m ds
  | .dic m _ ds => D.wms m ds
  | .ins m _ _ ds => D.wms m ds
  | .non => true
  | .bl _ => true
  | .int _ => true
  | .str _ => true
def D.wms (m : Md) : List D → Bool
  | [] => true
  | d :: ds => chOk m d.md && d.wm && D.wms m ds
end
theorem wms_iff {m : Md} : ∀ {ds : List D}, D.wms m ds = true ↔ ∀ d ∈ ds, chOk m d.md = true ∧ d.wm = true
  | [] => by simp [D.wms]
  | d :: ds => by simp [D.wms, wms_iff (ds := ds)]

def vBopZ : Bop → D → D → Res D
  | .cat, .lst _ xs, .lst _ ys => Res.guard (decide (xs.length + ys.length ≤ sizeLine)) (.ok (.lst .fz (xs ++ ys)))
  | o, x, y => vBop o x y
def vSlcZ : D → Option Int → Option Int → Res D
  | .lst _ ds, lo, hi => .ok (.lst .fz (cutD ds lo hi))
  | x, lo, hi => vSlc x lo hi
def vBltZ : Blt → List D → Res D
  | .list, [.lst _ ds] => .ok (.lst .fz ds)
  | .list, [.tup _ ds] => .ok (.lst .fz ds)
  | .list, [.dic _ ks _] => .ok (.lst .fz (ks.map keyD))
  | .dict, [.dic _ ks ds] => .ok (.dic .fz ks ds)
  | b, ds => vBlt b ds
def vBmtZ : Bmt → D → List D → Res D
  | .vals, .dic _ _ ds, [] => .ok (.lst .fz ds)
  | b, x, ds => vBmt b x ds
def vSeqZ : D → Res (List D)
  | .lst _ ds => .ok ds
  | .tup _ ds => .ok ds
  | _ => .stuck
def vLstZ : D → Res (List D)
  | .lst _ ds => .ok ds
  | _ => .stuck
def vDicZ : D → Res (List Key × List D)
  | .dic _ ks ds => .ok (ks, ds)
  | _ => .stuck
def pairsZ : List D → List D → List D
  | x :: xs, y :: ys => .tup .fz [x, y] :: pairsZ xs ys
  | _, _ => []
def enumsZ (i : Nat) : List D → List D
  | [] => []
  | x :: xs => .tup .fz [.int i, x] :: enumsZ (i + 1) xs
def RO.madeZ : RO → Res D
  | .ret .non (some d :: _) => .ok d
  | .ex c ds _ => .ex c ds
  | _ => .stuck
def compZ (bnd : D → Option Sl) (tst : Sl → Res Bool) (elt : Sl → Res D) : List D → Res (List D)
  | [] => .ok []
  | d :: ds => (Res.ofOpt (bnd d)).bind fun s => (tst s).bind fun b =>
    if b = true then (elt s).bind fun y => (compZ bnd tst elt ds).bind fun ys => .ok (y :: ys) else compZ bnd tst elt ds

variable (G : GE)
mutual
def evZ : Tm → Sl → Res D
  | .var i, s => match s[i]? with
    | some (some d) => .ok d
    | _ => .stuck
  | .cst d, _ => .ok d
  | .glb g, _ => .ok (G.glob g)
  | .op o a b, s => (evZ a s).bind fun x => (evZ b s).bind fun y => vBopZ o x y
  | .neg a, s => (evZ a s).bind vNeg
  | .cmp o a b, s => (evZ a s).bind fun x => (evZ b s).bind fun y => (vCop o x y).bind fun r => .ok (.bl r)
  | .chn o o' a b c, s => (evZ a s).bind fun x => (evZ b s).bind fun y => (vCop o x y).bind fun r =>
      if r = true then (evZ c s).bind fun z => (vCop o' y z).bind fun r => .ok (.bl r) else .ok (.bl false)
  | .and es, s => (evZAnd es s).bind fun b => .ok (.bl b)
  | .or es, s => (evZOr es s).bind fun b => .ok (.bl b)
  | .not a, s => (evZ a s).bind fun x => (vBl x).bind fun b => .ok (.bl (!b))
  | .ife c a b, s => (evZ c s).bind fun x => (vTru x).bind fun r => if r = true then evZ a s else evZ b s
  | .fld a f, s => (evZ a s).bind (vFld G.fok f)
  | .ix a b, s => (evZ a s).bind fun x => (evZ b s).bind fun y => vIx x y
  | .slc a lo hi, s => (evZ a s).bind fun x => (evZO lo s).bind fun l => (evZO hi s).bind fun h => vSlcZ x l h
  | .lst es, s => (evZL es s).bind fun ds => Res.guard (decide (ds.length ≤ sizeLine)) (.ok (.lst .fz ds))
  | .tup es, s => (evZL es s).bind fun ds => Res.guard (decide (ds.length ≤ sizeLine)) (.ok (.tup .fz ds))
  | .dct ks vs, s => (evZL vs s).bind fun ds => (evZL ks s).bind fun kd => match ks, vs with
      | [], [] => .ok (.dic .fz [] [])
      | _, _ => .stuck
  | .cal f es, s => (evZL es s).bind fun ds => (G.call f ds).val
  | .mak c es, s => (evZL es s).bind fun ds => match G.init c with
      | some f => (G.make f (.ins .fz c [] [] :: ds)).madeZ
      | none => .stuck
  | .met a m es, s => (evZ a s).bind fun x => match x with
      | .ins _ c fs _ => match G.meth c m with
        | some f => Res.guard (!(fs.any fun g => decide (g = m))) <| (evZL es s).bind fun ds => (G.call f (x :: ds)).val
        | none => .stuck
      | _ => .stuck
  | .blt b es, s => (evZL es s).bind fun ds => vBltZ b ds
  | .bmt b a es, s => (evZ a s).bind fun x => Res.guard (bmtR b x) <| (evZL es s).bind fun ds => vBmtZ b x ds
  | .isi a k, s => (evZ a s).bind fun x => (vIsi G.sub k x).bind fun r => .ok (.bl r)
  | .cmpr elt tg it ifs, s => (evZI it s).bind fun ds =>
      (compZ (fun d => bindT tg d (wipeS s (tgNames tg))) (fun s' => (evZIf ifs s').noEx) (fun s' => (evZ elt s').noEx) ds).bind fun ys => Res.guard (decide (ys.length ≤ sizeLine)) (.ok (.lst .fz ys))
def evZL : List Tm → Sl → Res (List D)
  | [], _ => .ok []
  | t :: ts, s => (evZ t s).bind fun d => (evZL ts s).bind fun ds => .ok (d :: ds)
def evZO : Option Tm → Sl → Res (Option Int)
  | none, _ => .ok none
  | some t, s => (evZ t s).bind fun d => (vInt d).bind fun i => .ok (some i)
def evZAnd : List Tm → Sl → Res Bool
  | [], _ => .ok true
  | t :: ts, s => (evZ t s).bind fun d => (vBl d).bind fun b => if b = true then evZAnd ts s else .ok false
def evZOr : List Tm → Sl → Res Bool
  | [], _ => .ok false
  | t :: ts, s => (evZ t s).bind fun d => (vBl d).bind fun b => if b = true then .ok true else evZOr ts s
def evZIf : List Tm → Sl → Res Bool
  | [], _ => .ok true
  | t :: ts, s => (evZ t s).bind fun d => (vTru d).bind fun b => if b = true then evZIf ts s else .ok false
def evZI : Itr → Sl → Res (List D)
  | .rng1 a, s => (evZ a s).bind fun x => (vInt x).bind fun n => Res.guard (small62 n) (.ok (rangeD 0 n.toNat))
  | .rng2 a b, s => (evZ a s).bind fun x => (vInt x).bind fun m => (evZ b s).bind fun y => (vInt y).bind fun n => Res.guard (small62 m && small62 n) (.ok (rangeD m (n - m).toNat))
  | .seq a, s => (evZ a s).bind vSeqZ
  | .enm a, s => (evZ a s).bind fun x => (vLstZ x).bind fun ds => .ok (enumsZ 0 ds)
  | .zip a b, s => (evZ a s).bind fun x => (evZ b s).bind fun y => (vLstZ x).bind fun xs => (vLstZ y).bind fun ys => .ok (pairsZ xs ys)
  | .keys a, s => (evZ a s).bind fun x => (vDicZ x).bind fun p => .ok (p.1.map keyD)
  | .items a, s => (evZ a s).bind fun x => (vDicZ x).bind fun p => .ok (pairsZ (p.1.map keyD) p.2)
  | .vals a, s => (evZ a s).bind fun x => (vDicZ x).bind fun p => .ok p.2
  | .rev a, s => (evZ a s).bind fun x => (vLstZ x).bind fun ds => .ok ds.reverse
  | .sgn a, s => (evZ a s).bind fun x => match x with
      | .str z => .ok (z.cps.toList.map fun c => .str ⟨#[c]⟩)
      | _ => .stuck
end

/-! ## statements -/
def slotZ (s : Sl) (i : Nat) : Res D := match s[i]? with
  | some (some d) => .ok d
  | _ => .stuck
def appZ (y : D) : D → Res D
  | .lst _ ds => Res.guard (decide (ds.length < sizeLine)) (.ok (.lst .fz (ds ++ [y])))
  | _ => .stuck
def extZ (y : D) : D → Res D
  | .lst _ ds => match y with
    | .lst _ ys => Res.guard (decide (ds.length + ys.length ≤ sizeLine)) (.ok (.lst .fz (ds ++ ys)))
    | _ => .stuck
  | _ => .stuck
def clrZ : D → Res D
  | .lst _ _ => .ok (.lst .fz [])
  | .dic _ _ _ => .ok (.dic .fz [] [])
  | _ => .stuck
def putZ (k y : D) : D → Res D
  | .lst _ ds => match k with
    | .int i => (Res.ofOpt (ixN ds.length i)).bind fun j => .ok (.lst .fz (ds.set j y))
    | _ => .stuck
  | .dic _ ks ds => (Res.ofOpt (D.key k)).bind fun q => Res.guard (decide (ks.length < sizeLine)) (if (ks.any fun p => decide (p = q)) = true then .ok (.dic .fz ks (setKey q y ks ds)) else .ok (.dic .fz (ks ++ [q]) (ds ++ [y])))
  | _ => .stuck
def fputZ (ok : Nat → Nat → Bool) (f : Nat) (y : D) : D → Res D
  | .ins _ c fs ds => Res.guard (ok c f && decide (fs.length < 900)) (if fs.any (fun p => decide (p = f)) then .ok (.ins .fz c fs (setFld f y fs ds)) else .ok (.ins .fz c (fs ++ [f]) (ds ++ [y])))
  | _ => .stuck
def isLD : D → Bool
  | .lst _ _ => true
  | .dic _ _ _ => true
  | _ => false
/-- the slots where an except suite begins -/
def hstZ (o : Option Nat) (x : D) (s : Sl) : Option Sl := match o with
  | some i => if i < s.length then some (s.set i (some x)) else none
  | none => some s
variable (W : (Sl → Sl ⊕ Out) → Sl → Out)
mutual
def exZ : Cm → Sl → Out
  | .set i t, s => Out.ofRes s (evZ G t s) fun d => .nx (s.set i (some d))
  | .unp g t, s => Out.ofRes s (evZ G t s) fun d => ofOpt (bindT g d s)
  | .par i j a b, s => .stuck
  | .aug i o t, s => .stuck
  | .put o i ss ix t, s => match ss with
    | [] => Out.ofRes s (evZ G t s) fun y => Out.ofRes s (slotZ s i) fun _ => Out.ofRes s (evZ G ix s) fun k => Out.ofRes s ((slotZ s i).bind (putZ k y)) fun d => .nx (s.set i (some d))
    | _ => .stuck
  | .fput o i ss f t, s => match ss with
    | [] => Out.ofRes s (evZ G t s) fun y => Out.ofRes s ((slotZ s i).bind (fputZ G.fok f y)) fun d => .nx (s.set i (some d))
    | _ => .stuck
  | .app o i ss t, s => match ss with
    | [] => match slotZ s i with
      | .ok (.lst _ _) => Out.ofRes s (evZ G t s) fun y => Out.ofRes s ((slotZ s i).bind (appZ y)) fun d => .nx (s.set i (some d))
      | _ => .stuck
    | _ => .stuck
  | .ext i ss t, s => match ss with
    | [] => match slotZ s i with
      | .ok (.lst _ _) => Out.ofRes s (evZ G t s) fun y => Out.ofRes s ((slotZ s i).bind (extZ y)) fun d => .nx (s.set i (some d))
      | _ => .stuck
    | _ => .stuck
  | .clr i ss, s => match ss with
    | [] => Out.ofRes s ((slotZ s i).bind clrZ) fun d => .nx (s.set i (some d))
    | _ => .stuck
  | .ex t, s => Out.ofRes s (evZ G t s) fun _ => .nx s
  | .ini c es, s => Out.ofRes s (evZL G es (s.set 0 none)).noEx fun ds => match G.init c with
      | some f => match slotZ s 0 with
        | .ok (.ins _ k fs vs) => match G.call f (.ins .fz k fs vs :: ds) with
          | .ret _ (some d :: _) => .nx (s.set 0 (some d))
          | .ex c ds _ => .ex c ds (s.set 0 none)
          | _ => .stuck
        | _ => .stuck
      | none => .stuck
  | .ret t, s => Out.ofRes s (evZ G t s) fun d => .rt d s
  | .retv i, s => Out.ofRes s (slotZ s i) fun d => .rt d s
  | .ret0, s => .rt .non s
  | .ite c a b, s => Out.ofRes s ((evZ G c s).bind vTru) fun r => if r = true then exZs a s else exZs b s
  | .whl c b, s => W (fun s => toStep s ((evZ G c s).bind vTru) (fun s => exZs b s)) s
  | .for_ g it b, s => Out.ofRes s (evZI G it s) fun ds => forL (bindT g) (fun s => exZs b s) ds s
  | .brk, s => .bk s
  | .cnt, s => .ct s
  | .pas, s => .nx s
  | .rai c es, s => Out.ofRes s (evZL G es s) fun ds => if (xcB G.sub c && decide ((G.xf c).length = ds.length)) = true then .ex c ds s else .stuck
  | .frz i, s => Out.ofRes s (slotZ s i) fun _ => .nx s
  | .frzc i, s => Out.ofRes s (slotZ s i) fun d => if isLD d = true then .nx s else .stuck
  | .kil i, s => .nx (s.set i none)
  | .never, _ => .stuck
  | .try_ b hs, s => match exZs b s with
    | .ex c ds _ => exZH hs c ds s
    | o => o
def exZH : Hd → Nat → List D → Sl → Out
  | .nil, c, ds, s => .ex c ds s
  | .cons hc o su hs, c, ds, s => if (xcB G.sub c && xcB G.sub hc) = true then (if decide (hc ∈ G.sub c) = true then
      (if decide ((G.xf c).length = ds.length) = true then (match hstZ o (excD G.xf c ds) s with
        | some s' => (exZs su s').hend o
        | none => .stuck) else .stuck) else exZH hs c ds s) else .stuck
def exZs : List Cm → Sl → Out
  | [], s => .nx s
  | c :: cs, s => (exZ c s).bind fun s' => exZs cs s'
end
/-! ## levels -/
def Out.toRZ : Out → RO
  | .nx s => .ret .non s
  | .rt d s => .ret d s
  | .ex c ds s => .ex c ds []
  | _ => .stuck
def runDfZ (G : GE) (W : (Sl → Sl ⊕ Out) → Sl → Out) (df : Df) (args : List D) : RO := (exZs G W df.code (startS df args)).toRZ
def runZ (T : TB) (W : (Sl → Sl ⊕ Out) → Sl → Out) : Nat → (Nat → List D → RO) × (Nat → List D → RO)
  | 0 => (fun _ _ => .stuck, fun _ _ => .stuck)
  | k + 1 => (fun f ds => match T.defs f with
      | some df => if (fill df ds).length = df.np ∧ ds.length ≤ df.np then runDfZ (GEof T k (runZ T W k)) W df (fill df ds) else .stuck
      | none => .stuck, (runZ T W k).1)
end GS

namespace GS
open PySem PySem.Spec PyProof.Rows L2

/-! # what modes a value may have, told ahead of any run -/
theorem D.ind {P : D → Prop} (hn : P .non) (hb : ∀ b, P (.bl b)) (hi : ∀ i, P (.int i)) (hs : ∀ x, P (.str x))
    (ht : ∀ m ds, (∀ d ∈ ds, P d) → P (.tup m ds)) (hl : ∀ m ds, (∀ d ∈ ds, P d) → P (.lst m ds)) (hd : ∀ m ks ds, (∀ d ∈ ds, P d) → P (.dic m ks ds)) (hc : ∀ m c fs ds, (∀ d ∈ ds, P d) → P (.ins m c fs ds)) : ∀ d, P d := by
  intro d
  refine D.rec (motive_1 := P) (motive_2 := fun ds => ∀ d ∈ ds, P d) hn hb hi hs ht hl hd hc (fun d h => nomatch h) ?_ d
  intro d ds h1 h2 x hx
  rcases List.mem_cons.mp hx with e | hx
  · rw [e]; exact h1
  · exact h2 x hx
def D.kids : D → List D
  | .tup _ ds => ds
  | .lst _ ds => ds
  | .dic _ _ ds => ds
  | .ins _ _ _ ds => ds
  | _ => []
theorem er_own2 (n : Md) : ∀ d : D, (d.own2 n).er = d.er := by
  have h : ∀ ds : List D, (∀ d ∈ ds, (d.own2 n).er = d.er) → D.ers (D.own2s n ds) = D.ers ds := fun ds h => by
    rw [own2s_map, ers_map, ers_map, List.map_map]
    exact List.map_congr_left h
  refine D.ind rfl (fun _ => rfl) (fun _ => rfl) (fun _ => rfl) ?_ ?_ ?_ ?_
  · intro m ds ih; cases m <;> first | rfl | (show D.tup .fz _ = D.tup .fz _; rw [h ds ih])
  · intro m ds ih; cases m <;> first | rfl | (show D.lst .fz _ = D.lst .fz _; rw [h ds ih])
  · intro m ks ds ih; cases m <;> first | rfl | (show D.dic .fz _ _ = D.dic .fz _ _; rw [h ds ih])
  · intro m c fs ds ih; cases m <;> first | rfl | (show D.ins .fz _ _ _ = D.ins .fz _ _ _; rw [h ds ih])
theorem er_brd : ∀ d : D, d.brd.er = d.er := by
  have h : ∀ ds : List D, (∀ d ∈ ds, d.brd.er = d.er) → D.ers (D.brds ds) = D.ers ds := fun ds h => by
    rw [brds_map, ers_map, ers_map, List.map_map]
    exact List.map_congr_left h
  refine D.ind rfl (fun _ => rfl) (fun _ => rfl) (fun _ => rfl) ?_ ?_ ?_ ?_
  · intro m ds ih; cases m <;> first | rfl | (show D.tup .fz _ = D.tup .fz _; rw [h ds ih])
  · intro m ds ih; cases m <;> first | rfl | (show D.lst .fz _ = D.lst .fz _; rw [h ds ih])
  · intro m ks ds ih; cases m <;> first | rfl | (show D.dic .fz _ _ = D.dic .fz _ _; rw [h ds ih])
  · intro m c fs ds ih; cases m <;> first | rfl | (show D.ins .fz _ _ _ = D.ins .fz _ _ _; rw [h ds ih])
theorem er_arg (d : D) : d.arg.er = d.er := by
  unfold D.arg
  cases d.md <;> first | rfl | exact er_own2 _ d | exact er_brd d
theorem wm_own2 {n : Md} (hn : n = .vw ∨ n = .fz) : ∀ d : D, d.wm = true → (d.own2 n).wm = true := by
  have h : ∀ ds : List D, (∀ d ∈ ds, d.wm = true → (d.own2 n).wm = true) → D.wms .own ds = true → D.wms n (D.own2s n ds) = true := fun ds ih h => by
    rw [wms_iff] at h ⊢
    intro d hd
    rw [own2s_map] at hd
    obtain ⟨x, hx, rfl⟩ := List.mem_map.mp hd
    obtain ⟨h1, h2⟩ := h x hx
    refine ⟨?_, ih x hx h2⟩
    rw [own2_md]
    rcases hn with rfl | rfl <;> cases e : x.md <;> rw [e] at h1 <;> first | rfl | (cases h1)
  refine D.ind (fun _ => rfl) (fun _ _ => rfl) (fun _ _ => rfl) (fun _ _ => rfl) ?_ ?_ ?_ ?_
  · intro m ds ih w; cases m <;> first | exact w | exact h ds ih w
  · intro m ds ih w; cases m <;> first | exact w | exact h ds ih w
  · intro m ks ds ih w; cases m <;> first | exact w | exact h ds ih w
  · intro m c fs ds ih w; cases m <;> first | exact w | exact h ds ih w
theorem wm_brd : ∀ d : D, d.wm = true → d.brd.wm = true := by
  have h : ∀ ds : List D, (∀ d ∈ ds, d.wm = true → d.brd.wm = true) → D.wms .vw ds = true → D.wms .br (D.brds ds) = true := fun ds ih h => by
    rw [wms_iff] at h ⊢
    intro d hd
    rw [brds_map] at hd
    obtain ⟨x, hx, rfl⟩ := List.mem_map.mp hd
    obtain ⟨h1, h2⟩ := h x hx
    refine ⟨?_, ih x hx h2⟩
    rw [brd_md]
    cases e : x.md <;> rw [e] at h1 <;> first | rfl | (cases h1)
  refine D.ind (fun _ => rfl) (fun _ _ => rfl) (fun _ _ => rfl) (fun _ _ => rfl) ?_ ?_ ?_ ?_
  · intro m ds ih w; cases m <;> first | exact w | exact h ds ih w
  · intro m ds ih w; cases m <;> first | exact w | exact h ds ih w
  · intro m ks ds ih w; cases m <;> first | exact w | exact h ds ih w
  · intro m c fs ds ih w; cases m <;> first | exact w | exact h ds ih w
theorem wm_kid {d x : D} (h : d.wm = true) (hx : x ∈ d.kids) : chOk d.md x.md = true ∧ x.wm = true := by
  cases d with
  | tup m ds => exact wms_iff.mp h x hx
  | lst m ds => exact wms_iff.mp h x hx
  | dic m ks ds => exact wms_iff.mp h x hx
  | ins m c fs ds => exact wms_iff.mp h x hx
  | _ => nomatch hx
theorem er_fz : ∀ d : D, d.wm = true → d.md = .fz → d.er = d := by
  have h : ∀ ds : List D, (∀ d ∈ ds, d.wm = true → d.md = .fz → d.er = d) → D.wms .fz ds = true → D.ers ds = ds := fun ds ih h => by
    rw [ers_map]
    rw [wms_iff] at h
    conv => rhs; rw [← List.map_id ds]
    refine List.map_congr_left fun d hd => ?_
    obtain ⟨h1, h2⟩ := h d hd
    refine ih d hd h2 ?_
    cases e : d.md <;> rw [e] at h1 <;> first | rfl | (cases h1)
  refine D.ind (fun _ _ => rfl) (fun _ _ _ => rfl) (fun _ _ _ => rfl) (fun _ _ _ => rfl) ?_ ?_ ?_ ?_
  · intro m ds ih w e; cases e; show D.tup .fz _ = _; rw [h ds ih w]
  · intro m ds ih w e; cases e; show D.lst .fz _ = _; rw [h ds ih w]
  · intro m ks ds ih w e; cases e; show D.dic .fz _ _ = _; rw [h ds ih w]
  · intro m c fs ds ih w e; cases e; show D.ins .fz _ _ _ = _; rw [h ds ih w]
theorem kids_own2 {n : Md} {d : D} : (d.own2 n).kids = if d.md = .own then d.kids.map (D.own2 n) else d.kids := by
  cases d with
  | tup m ds => cases m <;> first | rfl | (show D.own2s n ds = _; rw [own2s_map]; rfl)
  | lst m ds => cases m <;> first | rfl | (show D.own2s n ds = _; rw [own2s_map]; rfl)
  | dic m ks ds => cases m <;> first | rfl | (show D.own2s n ds = _; rw [own2s_map]; rfl)
  | ins m c fs ds => cases m <;> first | rfl | (show D.own2s n ds = _; rw [own2s_map]; rfl)
  | _ => rfl
theorem kids_brd {d : D} : d.brd.kids = if d.md = .vw then d.kids.map D.brd else d.kids := by
  cases d with
  | tup m ds => cases m <;> first | rfl | (show D.brds ds = _; rw [brds_map]; rfl)
  | lst m ds => cases m <;> first | rfl | (show D.brds ds = _; rw [brds_map]; rfl)
  | dic m ks ds => cases m <;> first | rfl | (show D.brds ds = _; rw [brds_map]; rfl)
  | ins m c fs ds => cases m <;> first | rfl | (show D.brds ds = _; rw [brds_map]; rfl)
  | _ => rfl

/-! ## classes -/
structure Cl where
  o : Bool
  v : Bool
  b : Bool
  f : Bool
  k : Bool
  deriving DecidableEq
namespace Cl
def F : Cl := ⟨false, false, false, true, true⟩
def bot : Cl := ⟨false, false, false, false, true⟩
def ok (c : Cl) : Md → Bool
  | .own => c.o
  | .vw => c.v
  | .br => c.b
  | .fz => c.f
/-- all below are frozen -/
def kk (c : Cl) : Bool := c.k || !(c.o || c.v || c.b)
def join (c d : Cl) : Cl := ⟨c.o || d.o, c.v || d.v, c.b || d.b, c.f || d.f, c.kk && d.kk⟩
def le (c d : Cl) : Bool := (!c.o || d.o) && (!c.v || d.v) && (!c.b || d.b) && (!c.f || d.f) && (!d.k || c.kk)
def view (c : Cl) : Cl := ⟨false, c.v || c.o, c.b, c.f, c.kk⟩
def arg (c : Cl) : Cl := ⟨false, false, c.b || c.v, c.f || c.o, c.kk⟩
def frz (c : Cl) : Cl := ⟨false, c.v, c.b, c.f || c.o, c.kk⟩
def child (c : Cl) : Cl := if c.kk = true then F else ⟨c.o, c.v, c.v || c.b, true, false⟩
/-- what is walked over -/
def elem (c : Cl) : Cl := ⟨false, c.child.v, c.child.b, true, c.child.kk⟩
/-- may be kept -/
def cl (c : Cl) : Bool := !c.v && !c.b
/-- what is below may be kept -/
def kc (c : Cl) : Bool := c.kk || !(c.v || c.b)
def own (k : Bool) : Cl := ⟨true, false, false, false, k⟩
def own1 : Cl := ⟨true, false, false, true, true⟩
/-- surely own -/
def sure (c : Cl) : Bool := c.o && !c.v && !c.b && !c.f
def any : Cl := ⟨false, true, false, false, false⟩
end Cl
def Cl.has (c : Cl) (d : D) : Prop := c.ok d.md = true ∧ (c.k = true → ∀ x ∈ d.kids, x.md = .fz)
/-- d is what d0 stands for, of the class c -/
structure Vc (c : Cl) (d0 d : D) : Prop where
  e : d.er = d0
  w : d.wm = true
  h : c.has d
section
variable {c c' : Cl} {d d0 x : D}
theorem Cl.has.kk (h : c.has d) (w : d.wm = true) (k : c.kk = true) : ∀ x ∈ d.kids, x.md = .fz := by
  unfold Cl.kk at k
  rw [Bool.or_eq_true] at k
  rcases k with k | k
  · exact h.2 k
  · intro x hx
    have h1 := (wm_kid w hx).1
    have h2 := h.1
    simp only [Bool.not_eq_true', Bool.or_eq_false_iff] at k
    obtain ⟨⟨k1, k2⟩, k3⟩ := k
    cases e : d.md <;> rw [e] at h1 h2 <;> simp only [Cl.ok] at h2
    · rw [k1] at h2; cases h2
    · cases e' : x.md <;> rw [e'] at h1 <;> first | rfl | cases h1
    · rw [k3] at h2; cases h2
    · rw [k2] at h2; cases h2
theorem Vc.le (h : Vc c d0 d) (l : c.le c' = true) : Vc c' d0 d := by
  unfold Cl.le at l
  simp only [Bool.and_eq_true, Bool.or_eq_true, Bool.not_eq_true'] at l
  obtain ⟨⟨⟨⟨l1, l2⟩, l3⟩, l4⟩, l5⟩ := l
  refine ⟨h.e, h.w, ?_, fun hk => ?_⟩
  · have := h.h.1
    cases e : d.md <;> rw [e] at this <;> simp only [Cl.ok] at this ⊢
    · rcases l1 with l | l; rw [l] at this; cases this; exact l
    · rcases l4 with l | l; rw [l] at this; cases this; exact l
    · rcases l3 with l | l; rw [l] at this; cases this; exact l
    · rcases l2 with l | l; rw [l] at this; cases this; exact l
  · rcases l5 with l | l
    · rw [l] at hk; cases hk
    · exact h.h.kk h.w l
theorem Vc.own2 {n : Md} (hn : n = .vw ∨ n = .fz) (h : Vc c d0 d) (hc : ∀ m, c.ok m = true → c'.ok (if m = .own then n else m) = true) (hk : c'.k = true → c.kk = true) : Vc c' d0 (d.own2 n) := by
  refine ⟨(er_own2 n d).trans h.e, wm_own2 hn d h.w, ?_, fun k x hx => ?_⟩
  · rw [own2_md]; exact hc _ h.h.1
  · rw [kids_own2] at hx
    have hh := h.h.kk h.w (hk k)
    split at hx
    · obtain ⟨y, hy, rfl⟩ := List.mem_map.mp hx
      rw [own2_md, hh y hy]; rfl
    · exact hh x hx
theorem Vc.view (h : Vc c d0 d) : Vc c.view d0 (d.own2 .vw) := h.own2 (.inl rfl) (fun m hm => by
  cases m <;> simp [Cl.ok, Cl.view] at hm ⊢ <;> simp [hm]) fun k => k
theorem Vc.frz (h : Vc c d0 d) : Vc c.frz d0 (d.own2 .fz) := h.own2 (.inr rfl) (fun m hm => by
  cases m <;> simp [Cl.ok, Cl.frz] at hm ⊢ <;> simp [hm]) fun k => k
theorem Vc.arg (h : Vc c d0 d) : Vc c.arg d0 d.arg := by
  have h1 := h.h.1
  unfold D.arg
  cases e : d.md
  · dsimp only
    refine ⟨(er_own2 _ d).trans h.e, wm_own2 (.inr rfl) d h.w, ?_, fun k x hx => ?_⟩
    · rw [own2_md, e]; rw [e] at h1; simp [Cl.ok, Cl.arg] at h1 ⊢; simp [h1]
    · rw [kids_own2, e] at hx
      obtain ⟨y, hy, rfl⟩ := List.mem_map.mp hx
      rw [own2_md, h.h.kk h.w k y hy]; rfl
  · dsimp only
    refine ⟨h.e, h.w, ?_, fun k => h.h.kk h.w k⟩
    rw [e]; rw [e] at h1; simp [Cl.ok, Cl.arg] at h1 ⊢; simp [h1]
  · dsimp only
    refine ⟨h.e, h.w, ?_, fun k => h.h.kk h.w k⟩
    rw [e]; rw [e] at h1; simp [Cl.ok, Cl.arg] at h1 ⊢; simp [h1]
  · dsimp only
    refine ⟨(er_brd d).trans h.e, wm_brd d h.w, ?_, fun k x hx => ?_⟩
    · rw [brd_md, e]; rw [e] at h1; simp [Cl.ok, Cl.arg] at h1 ⊢; simp [h1]
    · rw [kids_brd, e] at hx
      obtain ⟨y, hy, rfl⟩ := List.mem_map.mp hx
      rw [brd_md, h.h.kk h.w k y hy]; rfl
theorem Vc.kid (h : Vc c d0 d) (hx : x ∈ d.kids) : Vc c.child x.er x := by
  obtain ⟨k1, k2⟩ := wm_kid h.w hx
  refine ⟨rfl, k2, ?_⟩
  unfold Cl.child
  split
  · next hk =>
    have hf := h.h.kk h.w hk x hx
    exact ⟨by rw [hf]; rfl, fun _ y hy => by
      have := (wm_kid k2 hy).1
      rw [hf] at this
      cases e : y.md <;> rw [e] at this <;> first | rfl | cases this⟩
  · refine ⟨?_, fun k => nomatch k⟩
    have h1 := h.h.1
    cases e : d.md <;> rw [e] at h1 k1 <;> cases e' : x.md <;> rw [e'] at k1 <;> first | (cases k1; done) | (simp [Cl.ok] at h1 ⊢; try simp [h1])
theorem Vc.fz (h : Vc c d0 d) (hc : c.le Cl.F = true) : d = d0 ∧ d.md = .fz := by
  have := (h.le hc).h.1
  have hm : d.md = .fz := by
    cases e : d.md <;> rw [e] at this <;> first | rfl | cases this
  exact ⟨(er_fz d h.w hm).symm.trans h.e, hm⟩
theorem Vc.cl (h : Vc c d0 d) (hc : c.cl = true) : d.cl = true := by
  have h1 := h.h.1
  unfold Cl.cl at hc
  simp only [Bool.and_eq_true, Bool.not_eq_true'] at hc
  unfold D.cl
  cases e : d.md <;> rw [e] at h1 <;> simp only [Cl.ok] at h1 <;> first | rfl | (rw [hc.1] at h1; cases h1) | (rw [hc.2] at h1; cases h1)
theorem Vc.notVw (h : Vc c d0 d) (hc : c.v = false) : notVw d = true := by
  have h1 := h.h.1
  unfold GS.notVw
  cases e : d.md <;> rw [e] at h1 <;> simp only [Cl.ok] at h1 <;> first | rfl | (rw [hc] at h1; cases h1)
theorem Vc.sure (h : Vc c d0 d) (hc : c.sure = true) : d.md = .own := by
  have h1 := h.h.1
  unfold Cl.sure at hc
  simp only [Bool.and_eq_true, Bool.not_eq_true'] at hc
  cases e : d.md <;> rw [e] at h1 <;> simp only [Cl.ok] at h1 <;> first | rfl | (rw [hc.1.1.2] at h1; cases h1) | (rw [hc.1.2] at h1; cases h1) | (rw [hc.2] at h1; cases h1)
/-- what is below may be kept -/
theorem Vc.kcl (h : Vc c d0 d) (hc : c.kc = true) (hx : x ∈ d.kids) : x.cl = true := by
  have hk := h.kid hx
  unfold Cl.kc at hc
  rw [Bool.or_eq_true] at hc
  refine hk.cl ?_
  rcases hc with hc | hc
  · unfold Cl.child; rw [if_pos hc]; rfl
  · unfold Cl.child
    simp only [Bool.not_eq_true', Bool.or_eq_false_iff] at hc
    split
    · rfl
    · simp [Cl.cl, hc.1, hc.2]
/-- a frozen child -/
theorem Vc.efz (h : Vc c d0 d) (hx : x ∈ d.kids) (ho : d.md = .own) : Vc Cl.F x.er (x.own2 .fz) := by
  obtain ⟨k1, k2⟩ := wm_kid h.w hx
  have hm : (x.own2 .fz).md = .fz := by
    rw [own2_md]
    rw [ho] at k1
    cases e : x.md <;> rw [e] at k1 <;> first | rfl | cases k1
  have hw := wm_own2 (.inr rfl) x k2
  exact ⟨er_own2 _ _, hw, by rw [hm]; rfl, fun _ y hy => by
    have := (wm_kid hw hy).1
    rw [hm] at this
    cases e : y.md <;> rw [e] at this <;> first | rfl | cases this⟩
theorem vc_fz (w : d.wm = true) (hm : d.md = .fz) : Vc Cl.F d d := ⟨er_fz d w hm, w, by rw [hm]; rfl, fun _ y hy => by
    have := (wm_kid w hy).1
    rw [hm] at this
    cases e : y.md <;> rw [e] at this <;> first | rfl | cases this⟩
theorem vc_cfz (w : d.wm = true) (hc : d.cl = true) : Vc Cl.F d.er (d.own2 .fz) := by
  have hw := wm_own2 (.inr rfl) d w
  have hm : (d.own2 .fz).md = .fz := by
    rw [own2_md]
    unfold D.cl at hc
    cases e : d.md <;> rw [e] at hc <;> first | rfl | cases hc
  have := vc_fz hw hm
  exact ⟨er_own2 _ _, this.w, this.h⟩
theorem F_le : Cl.le Cl.F Cl.F = true := rfl
theorem vc_int {i : Int} : Vc Cl.F (.int i) (.int i) := vc_fz rfl rfl
theorem vc_bl {i : Bool} : Vc Cl.F (.bl i) (.bl i) := vc_fz rfl rfl
theorem vc_non : Vc Cl.F .non .non := vc_fz rfl rfl
theorem vc_str {i : Str} : Vc Cl.F (.str i) (.str i) := vc_fz rfl rfl
theorem vc_key (k : Key) : Vc Cl.F (keyD k) (keyD k) := by cases k <;> exact vc_fz rfl rfl
end

/-! ## results -/
def RRp {α β : Type} (P : α → β → Prop) (r0 : Res α) (r : Res β) : Prop := match r0 with
  | .ok a => ∃ b, r = .ok b ∧ P a b
  | .ex c ds => r = .ex c ds ∧ ∀ d ∈ ds, Vc Cl.F d d
  | .stuck => True
section
variable {α β γ δ : Type} {P : α → β → Prop} {Q : γ → δ → Prop} {r0 : Res α} {r : Res β}
theorem RRp.bind {f : α → Res γ} {g : β → Res δ} (h : RRp P r0 r) (hf : ∀ a b, P a b → RRp Q (f a) (g b)) : RRp Q (r0.bind f) (r.bind g) := by
  cases r0 with
  | ok a => obtain ⟨b, e, p⟩ := h; rw [e]; exact hf a b p
  | ex c ds => obtain ⟨e, p⟩ := h; rw [e]; exact ⟨rfl, p⟩
  | stuck => trivial
theorem RRp.mono {P' : α → β → Prop} (h : RRp P r0 r) (hf : ∀ a b, P a b → P' a b) : RRp P' r0 r := by
  cases r0 with
  | ok a => obtain ⟨b, e, p⟩ := h; exact ⟨b, e, hf a b p⟩
  | ex c ds => exact h
  | stuck => trivial
theorem RRp.ok {a : α} {b : β} (h : P a b) : RRp P (.ok a) (.ok b) := ⟨b, rfl, h⟩
theorem RRp.guardR {b : Bool} (hb : b = true) (h : RRp P r0 r) : RRp P r0 (Res.guard b r) := by subst hb; exact h
theorem RRp.guard {a b : Bool} (h1 : a = true → b = true) (h : RRp P r0 r) : RRp P (Res.guard a r0) (Res.guard b r) := by
  cases a with
  | true => rw [h1 rfl]; exact h
  | false => trivial
theorem RRp.noEx (h : RRp P r0 r) : RRp P r0.noEx r.noEx := by
  cases r0 with
  | ok a => obtain ⟨b, e, p⟩ := h; rw [e]; exact ⟨b, rfl, p⟩
  | _ => trivial
theorem RRp.eq {r : Res α} (hne : ∀ c ds, r ≠ .ex c ds) : RRp (fun a b => a = b) r r := by
  cases r with
  | ok a => exact ⟨a, rfl, rfl⟩
  | ex c ds => exact absurd rfl (hne c ds)
  | stuck => trivial
theorem RRp.of (h : r0 ≠ .stuck → RRp P r0 r) : RRp P r0 r := by
  cases r0 with
  | stuck => trivial
  | ok a => exact h (by simp)
  | ex c ds => exact h (by simp)
end
end GS

namespace GS
open PySem PySem.Spec PyProof.Rows L2

/-! ## the look ahead: expressions -/
structure AG where
  sg : Nat → Option (List Cl × Cl)
  ms : Nat → Option (List Cl × Cl)
  fs : Nat → Cl
  gl : Nat → Bool
  init : Nat → Option Nat
  frz : Nat → Bool
inductive AV where
  | leaf (c : Cl)
  | pr (a b : AV)
def AV.cl : AV → Cl
  | .leaf c => c
  | .pr _ _ => Cl.any
def aArgs : List Cl → List Cl → Bool
  | [], _ => true
  | _ :: _, [] => false
  | c :: cs, p :: ps => c.arg.le p && aArgs cs ps
mutual
def aB (ok : Nat → List Cl → Cl → Bool) : Tg → AV → List Cl → Option (List Cl)
  | .nm i, a, Γ => if ok i Γ a.cl = true then some (Γ.set i a.cl) else none
  | .tp gs, .leaf c, Γ => aBs ok gs c.child Γ
  | .tp gs, .pr a b, Γ => aBp ok gs a b Γ
def aBs (ok : Nat → List Cl → Cl → Bool) : List Tg → Cl → List Cl → Option (List Cl)
  | [], _, Γ => some Γ
  | g :: gs, c, Γ => (aB ok g (.leaf c) Γ).bind (aBs ok gs c)
def aBp (ok : Nat → List Cl → Cl → Bool) : List Tg → AV → AV → List Cl → Option (List Cl)
  | [], _, _, _ => none
  | g :: gs, a, b, Γ => (aB ok g a Γ).bind (aB1 ok gs b)
def aB1 (ok : Nat → List Cl → Cl → Bool) : List Tg → AV → List Cl → Option (List Cl)
  | [], _, _ => none
  | g :: gs, a, Γ => if gs.isEmpty = true then aB ok g a Γ else none
end
def okC : Nat → List Cl → Cl → Bool := fun _ _ _ => true
def okS (np : Nat) : Nat → List Cl → Cl → Bool := fun i Γ c => !c.v && (decide (np ≤ i) || !((Γ[i]?.map (·.o)).getD true))
def wipeC (Γ : List Cl) : List Nat → List Cl
  | [] => Γ
  | i :: is => (wipeC Γ is).set i Cl.bot
def scalarD : D → Bool
  | .non => true
  | .bl _ => true
  | .int _ => true
  | .str _ => true
  | _ => false
variable (A : AG)
mutual
def aE : Tm → List Cl → Option Cl
  | .var i, Γ => Γ[i]?
  | .cst d, _ => if scalarD d = true then some Cl.F else none
  | .glb g, _ => if A.gl g = true then some Cl.F else none
  | .op o a b, Γ => (aE a Γ).bind fun x => (aE b Γ).bind fun y => match o with
    | .cat => if (x.kc && y.kc && !x.b && !y.b) = true then some (Cl.own true) else none
    | _ => some Cl.F
  | .neg a, Γ => (aE a Γ).bind fun _ => some Cl.F
  | .cmp o a b, Γ => (aE a Γ).bind fun _ => (aE b Γ).bind fun _ => some Cl.F
  | .chn o o' a b c, Γ => (aE a Γ).bind fun _ => (aE b Γ).bind fun _ => (aE c Γ).bind fun _ => some Cl.F
  | .and es, Γ => (aL es Γ).bind fun _ => some Cl.F
  | .or es, Γ => (aL es Γ).bind fun _ => some Cl.F
  | .not a, Γ => (aE a Γ).bind fun _ => some Cl.F
  | .ife c a b, Γ => (aE c Γ).bind fun _ => (aE a Γ).bind fun x => (aE b Γ).bind fun y => if (x.le (x.join y) && y.le (x.join y)) = true then some (x.join y) else none
  | .fld a f, Γ => (aE a Γ).bind fun x => some x.child
  | .ix a b, Γ => (aE a Γ).bind fun x => (aE b Γ).bind fun _ => if (Cl.le Cl.F x.child) = true then some x.child else none
  | .slc a lo hi, Γ => (aE a Γ).bind fun x => (aO lo Γ).bind fun _ => (aO hi Γ).bind fun _ => if x.kc = true then some Cl.own1 else none
  | .lst es, Γ => (aL es Γ).bind fun cs => if cs.all Cl.cl = true then some (Cl.own (cs.all fun c => !c.o)) else none
  | .tup es, Γ => (aL es Γ).bind fun cs => if cs.all Cl.cl = true then some (Cl.own (cs.all fun c => !c.o)) else none
  | .dct ks vs, Γ => match ks, vs with
    | [], [] => some (Cl.own true)
    | _, _ => none
  | .cal f es, Γ => (aL es Γ).bind fun cs => (A.sg f).bind fun p => if aArgs cs p.1 = true then some p.2 else none
  | .mak c es, Γ => (aL es Γ).bind fun cs => (A.init c).bind fun f => (A.sg f).bind fun p => match p.1 with
    | q :: ps => if ((Cl.own true).le q && aArgs cs ps && (A.fs f).cl) = true then some (if A.frz c = true then Cl.F else A.fs f) else none
    | [] => none
  | .met a m es, Γ => (aE a Γ).bind fun x => (aL es Γ).bind fun cs => (A.ms m).bind fun p => if aArgs (x :: cs) p.1 = true then some p.2 else none
  | .blt b es, Γ => (aL es Γ).bind fun cs => match b with
    | .list => if cs.all Cl.kc = true then some (Cl.own true) else none
    | .dict => if cs.all Cl.kc = true then some (Cl.own true) else none
    | _ => some Cl.F
  | .bmt b a es, Γ => (aE a Γ).bind fun x => (aL es Γ).bind fun cs => match b, cs with
    | .get2, [k, y] => let z := x.child.join y
      if (x.child.le z && y.le z) = true then some z else none
    | .vals, [] => if x.kc = true then some (Cl.own true) else none
    | _, _ => none
  | .isi a k, Γ => (aE a Γ).bind fun _ => some Cl.F
  | .cmpr elt tg it ifs, Γ => (aI false it Γ).bind fun av => (aB okC tg av (wipeC Γ (tgNames tg))).bind fun Γ' => (aL ifs Γ').bind fun _ => (aE elt Γ').bind fun c => if c.cl = true then some (Cl.own (!c.o)) else none
def aL : List Tm → List Cl → Option (List Cl)
  | [], _ => some []
  | t :: ts, Γ => (aE t Γ).bind fun c => (aL ts Γ).bind fun cs => some (c :: cs)
def aO : Option Tm → List Cl → Option Cl
  | none, _ => some Cl.F
  | some t, Γ => aE t Γ
def aI (st : Bool) : Itr → List Cl → Option AV
  | .rng1 a, Γ => (aE a Γ).bind fun _ => some (.leaf Cl.F)
  | .rng2 a b, Γ => (aE a Γ).bind fun _ => (aE b Γ).bind fun _ => some (.leaf Cl.F)
  | .seq a, Γ => (aE a Γ).bind fun x => if (!st || !x.v) = true then some (.leaf x.elem) else none
  | .enm a, Γ => (aE a Γ).bind fun x => if (!st || !x.v) = true then some (.pr (.leaf Cl.F) (.leaf x.elem)) else none
  | .zip a b, Γ => (aE a Γ).bind fun x => (aE b Γ).bind fun y => if (!st || (!x.v && !y.v)) = true then some (.pr (.leaf x.elem) (.leaf y.elem)) else none
  | .keys a, Γ => (aE a Γ).bind fun x => if (!st || !x.v) = true then some (.leaf Cl.F) else none
  | .items a, Γ => (aE a Γ).bind fun x => if (!st || !x.v) = true then some (.pr (.leaf Cl.F) (.leaf x.elem)) else none
  | .vals a, Γ => (aE a Γ).bind fun x => if (!st || !x.v) = true then some (.leaf x.elem) else none
  | .rev a, Γ => (aE a Γ).bind fun x => if (!st || !x.v) = true then some (.leaf x.elem) else none
  | .sgn a, Γ => (aE a Γ).bind fun _ => some (.leaf Cl.F)
end

/-! ## states -/
inductive SR : List Cl → Sl → Sl → Prop
  | nil : SR [] [] []
  | non {c Γ s0 s} : SR Γ s0 s → SR (c :: Γ) (none :: s0) (none :: s)
  | som {c d0 d Γ s0 s} : Vc c d0 d → SR Γ s0 s → SR (c :: Γ) (some d0 :: s0) (some d :: s)
inductive VL : List Cl → List D → List D → Prop
  | nil : VL [] [] []
  | cons {c d0 d Γ s0 s} : Vc c d0 d → VL Γ s0 s → VL (c :: Γ) (d0 :: s0) (d :: s)
/-- arguments and the classes of the parameters -/
inductive AR : List Cl → List D → List D → Prop
  | nil {ps} : AR ps [] []
  | cons {p d0 d ps s0 s} : Vc p d0 d → AR ps s0 s → AR (p :: ps) (d0 :: s0) (d :: s)
section
variable {Γ : List Cl} {s0 s : Sl}
theorem SR.get (h : SR Γ s0 s) : ∀ {i : Nat} {d0 : D}, s0[i]? = some (some d0) → ∃ c d, Γ[i]? = some c ∧ s[i]? = some (some d) ∧ Vc c d0 d := by
  induction h with
  | nil => intro i d0 e; cases e
  | non _ ih => intro i d0 e; cases i with
    | zero => cases e
    | succ i => exact ih (by simpa using e)
  | som v _ ih => intro i d0 e; cases i with
    | zero => cases e; exact ⟨_, _, rfl, rfl, v⟩
    | succ i => exact ih (by simpa using e)
theorem SR.nget (h : SR Γ s0 s) : ∀ {i : Nat}, (∀ d0, s0[i]? ≠ some (some d0)) → ∀ d, s[i]? ≠ some (some d) := by
  induction h with
  | nil => intro i _ d e; cases e
  | non _ ih => intro i e; cases i with
    | zero => intro d z; cases z
    | succ i => exact ih (i := i) (fun d z => e d (by simpa using z))
  | som v _ ih => intro i e; cases i with
    | zero => exact absurd rfl (e _)
    | succ i => exact ih (i := i) (fun d z => e d (by simpa using z))
theorem SR.set (h : SR Γ s0 s) {c : Cl} {d0 d : D} (v : Vc c d0 d) : ∀ (i : Nat), SR (Γ.set i c) (s0.set i (some d0)) (s.set i (some d)) := by
  induction h with
  | nil => intro i; exact .nil
  | non h ih => intro i; cases i with
    | zero => exact .som v h
    | succ i => exact .non (ih i)
  | som v' h ih => intro i; cases i with
    | zero => exact .som v h
    | succ i => exact .som v' (ih i)
theorem SR.del (h : SR Γ s0 s) {c : Cl} : ∀ (i : Nat), SR (Γ.set i c) (s0.set i none) (s.set i none) := by
  induction h with
  | nil => intro i; exact .nil
  | non h ih => intro i; cases i with
    | zero => exact .non h
    | succ i => exact .non (ih i)
  | som v' h ih => intro i; cases i with
    | zero => exact .non h
    | succ i => exact .som v' (ih i)
theorem SR.view (h : SR Γ s0 s) : SR (Γ.map Cl.view) s0 (viewS s) := by
  induction h with
  | nil => exact .nil
  | non _ ih => exact .non ih
  | som v _ ih => exact .som v.view ih
theorem SR.wipe (h : SR Γ s0 s) : ∀ is : List Nat, SR (wipeC Γ is) (wipeS s0 is) (wipeS s is)
  | [] => h
  | i :: is => (SR.wipe h is).del i
theorem VL.len {cs : List Cl} {as bs : List D} (h : VL cs as bs) : bs.length = as.length := by
  induction h with
  | nil => rfl
  | cons _ _ ih => simp [ih]
theorem VL.ers {cs : List Cl} {as bs : List D} (h : VL cs as bs) : D.ers bs = as := by
  induction h with
  | nil => rfl
  | cons v _ ih => show D.er _ :: D.ers _ = _; rw [v.e, ih]
theorem VL.cls {cs : List Cl} {as bs : List D} (h : VL cs as bs) (hc : cs.all Cl.cl = true) : bs.all D.cl = true := by
  induction h with
  | nil => rfl
  | cons v _ ih =>
    simp only [List.all_cons, Bool.and_eq_true] at hc ⊢
    exact ⟨v.cl hc.1, ih hc.2⟩
theorem VL.own {cs : List Cl} {as bs : List D} (h : VL cs as bs) (hc : cs.all Cl.cl = true) : D.wms .own bs = true ∧ ((cs.all fun c => !c.o) = true → ∀ x ∈ bs, x.md = .fz) := by
  induction h with
  | nil => exact ⟨rfl, fun _ _ z => nomatch z⟩
  | cons v _ ih =>
    simp only [List.all_cons, Bool.and_eq_true] at hc
    obtain ⟨i1, i2⟩ := ih hc.2
    have hcl := v.cl hc.1
    refine ⟨?_, fun hk x hx => ?_⟩
    · unfold D.wms
      rw [i1, v.w, Bool.and_true, Bool.and_true]
      unfold D.cl at hcl
      split at hcl
      · next e => rw [e]; rfl
      · next e => rw [e]; rfl
      · cases hcl
    · simp only [List.all_cons, Bool.and_eq_true] at hk
      rcases List.mem_cons.mp hx with e | hx
      · subst e
        have h1 := v.h.1
        unfold D.cl at hcl
        split at hcl
        · next e => rw [e] at h1; simp only [Cl.ok] at h1; rw [h1] at hk; simp at hk
        · next e => exact e
        · cases hcl
      · exact i2 hk.2 x hx
theorem VL.args {cs ps : List Cl} {as bs : List D} (h : VL cs as bs) : aArgs cs ps = true → AR ps as (bs.map D.arg) := by
  induction h generalizing ps with
  | nil => intro _; exact .nil
  | cons v _ ih =>
    intro ha
    cases ps with
    | nil => cases ha
    | cons p ps =>
      unfold aArgs at ha
      rw [Bool.and_eq_true] at ha
      exact .cons (v.arg.le ha.1) (ih ha.2)
end
/-- elements of what is walked -/
def AV.has : AV → D → D → Prop
  | .leaf c, d0, d => Vc c d0 d
  | .pr a b, d0, d => ∃ x0 y0 x y, d0 = .tup .fz [x0, y0] ∧ d = .tup .vw [x, y] ∧ AV.has a x0 x ∧ AV.has b y0 y
/-- no own ones -/
def AV.noOwn : AV → Bool
  | .leaf c => !c.o
  | .pr a b => a.noOwn && b.noOwn
theorem AV.toCl : ∀ (a : AV) {d0 d : D}, a.noOwn = true → a.has d0 d → Vc a.cl d0 d
  | .leaf c, _, _, _, h => h
  | .pr a b, _, _, hn, ⟨x0, y0, x, y, e0, e, h1, h2⟩ => by
    unfold AV.noOwn at hn
    rw [Bool.and_eq_true] at hn
    have hh : ∀ (a : AV) {u0 u : D}, a.noOwn = true → Vc a.cl u0 u → chOk .vw u.md = true := fun a u0 u hn v => by
      have h1 := v.h.1
      have : a.cl.o = false := by
        cases a with
        | leaf c => unfold AV.noOwn at hn; simpa [AV.cl] using hn
        | pr _ _ => rfl
      cases e : u.md <;> first | rfl | (rw [e] at h1; simp only [Cl.ok] at h1; rw [this] at h1; cases h1)
    have v1 := AV.toCl a hn.1 h1
    have v2 := AV.toCl b hn.2 h2
    subst e0 e
    refine ⟨?_, ?_, rfl, fun k => nomatch k⟩
    · show D.tup .fz [x.er, y.er] = _
      rw [v1.e, v2.e]
    · show (chOk .vw x.md && x.wm && (chOk .vw y.md && y.wm && true)) = true
      rw [hh a hn.1 v1, hh b hn.2 v2, v1.w, v2.w]; rfl
end GS

namespace GS
open PySem PySem.Spec PyProof.Rows L2

/-! ## operators and modes -/
mutual
theorem py_er : ∀ d : D, d.er.py = d.py
  | .tup _ ds => by show (D.pys (D.ers ds)).map _ = (D.pys ds).map _; rw [pys_er ds]
  | .lst _ ds => by show (D.pys (D.ers ds)).map _ = (D.pys ds).map _; rw [pys_er ds]
  | .dic _ _ _ => rfl
  | .ins _ _ _ _ => rfl
  | .non => rfl
  | .bl _ => rfl
  | .int _ => rfl
  | .str _ => rfl
theorem pys_er : ∀ ds : List D, D.pys (D.ers ds) = D.pys ds
  | [] => rfl
  | d :: ds => by show (D.py d.er).bind _ = (D.py d).bind _; rw [py_er d, pys_er ds]
end
theorem v_er (d : D) : d.er.v = d.v := by cases d <;> rfl
theorem key_er (d : D) : d.er.key = d.key := by cases d <;> rfl
theorem allV_er : ∀ ds : List D, allV (D.ers ds) = allV ds
  | [] => rfl
  | d :: ds => by show (d.er.v).bind _ = d.v.bind _; rw [v_er, allV_er ds]
theorem allBl_er : ∀ ds : List D, allBl (D.ers ds) = allBl ds
  | [] => rfl
  | d :: ds => by cases d <;> first | rfl | (show (allBl (D.ers ds)).map _ = (allBl ds).map _; rw [allBl_er ds])
theorem ers_len (ds : List D) : (D.ers ds).length = ds.length := by rw [ers_map, List.length_map]
theorem ers_emp (ds : List D) : (D.ers ds).isEmpty = ds.isEmpty := by cases ds <;> rfl
theorem ers_app (as bs : List D) : D.ers (as ++ bs) = D.ers as ++ D.ers bs := by simp [ers_map]
theorem ers_own2s (n : Md) (ds : List D) : D.ers (D.own2s n ds) = D.ers ds := by
  rw [own2s_map, ers_map, ers_map, List.map_map]
  exact List.map_congr_left fun d _ => er_own2 n d
theorem vEq_er (x y : D) : vEq x.er y.er = vEq x y := by
  have h : ∀ x y : D, (match x.er.py, y.er.py with
    | some a, some b => Res.guard (SeqAt.shaped a && SeqAt.shaped b) (.ok (PyData.eqv a b))
    | _, _ => .stuck) = (match x.py, y.py with
    | some a, some b => Res.guard (SeqAt.shaped a && SeqAt.shaped b) (.ok (PyData.eqv a b))
    | _, _ => (.stuck : Res Bool)) := fun x y => by rw [py_er, py_er]
  cases x <;> cases y <;> first | rfl | exact h (.bl _) (.tup _ _) | exact h (.bl _) (.lst _ _) | exact h (.int _) (.tup _ _) | exact h (.int _) (.lst _ _) | exact h (.str _) (.tup _ _) | exact h (.str _) (.lst _ _) | exact h (.non) (.tup _ _) | exact h (.non) (.lst _ _) | exact h (.dic _ _ _) (.tup _ _) | exact h (.dic _ _ _) (.lst _ _) | exact h (.ins _ _ _ _) (.tup _ _) | exact h (.ins _ _ _ _) (.lst _ _) | exact h (.tup _ _) (.tup _ _) | exact h (.tup _ _) (.lst _ _) | exact h (.lst _ _) (.tup _ _) | exact h (.lst _ _) (.lst _ _) | exact h (.tup _ _) (.bl _) | exact h (.tup _ _) (.int _) | exact h (.tup _ _) (.str _) | exact h (.tup _ _) (.non) | exact h (.tup _ _) (.dic _ _ _) | exact h (.tup _ _) (.ins _ _ _ _) | exact h (.lst _ _) (.bl _) | exact h (.lst _ _) (.int _) | exact h (.lst _ _) (.str _) | exact h (.lst _ _) (.non) | exact h (.lst _ _) (.dic _ _ _) | exact h (.lst _ _) (.ins _ _ _ _)
theorem vIn_er (x y : D) : vIn x.er y.er = vIn x y := by
  cases y with
  | tup m ds => show Res.ofOpt (x.er.v.bind fun a => (allV (D.ers ds)).map fun vs => inV a vs) = _; rw [v_er, allV_er]; rfl
  | lst m ds => show Res.ofOpt (x.er.v.bind fun a => (allV (D.ers ds)).map fun vs => inV a vs) = _; rw [v_er, allV_er]; rfl
  | dic m ks ds => show Res.ofOpt (x.er.key.map fun k => ks.any fun q => decide (q = k)) = _; rw [key_er]; rfl
  | str s => cases x <;> rfl
  | _ => cases x <;> rfl
theorem isN_er (x : D) : x.er.isN = x.isN := by cases x <;> rfl
theorem vCop_er (o : Cop) (x y : D) : vCop o x.er y.er = vCop o x y := by
  cases o with
  | eq => rw [show vCop .eq x.er y.er = vEq x.er y.er by cases x <;> cases y <;> rfl, vEq_er]; cases x <;> cases y <;> rfl
  | ne => rw [show vCop .ne x.er y.er = (vEq x.er y.er).bind fun b => .ok (!b) by cases x <;> cases y <;> rfl, vEq_er]; cases x <;> cases y <;> rfl
  | isin => rw [show vCop .isin x.er y.er = vIn x.er y.er by cases x <;> cases y <;> rfl, vIn_er]; cases x <;> cases y <;> rfl
  | notin => rw [show vCop .notin x.er y.er = (vIn x.er y.er).bind fun b => .ok (!b) by cases x <;> cases y <;> rfl, vIn_er]; cases x <;> cases y <;> rfl
  | isN => cases y <;> first | (cases x <;> rfl) | rfl
  | notN => cases y <;> first | (cases x <;> rfl) | rfl
  | _ => cases x <;> cases y <;> rfl
theorem vCop_nx (o : Cop) (x y : D) : ∀ c ds, vCop o x y ≠ .ex c ds := by
  have g : ∀ (b : Bool) (r : Res Bool), (∀ c ds, r ≠ .ex c ds) → ∀ c ds, Res.guard b r ≠ .ex c ds := fun b r h c ds => by cases b; (intro z; cases z); exact h c ds
  have q : ∀ x y : D, ∀ c ds, vEq x y ≠ .ex c ds := fun x y c ds => by
    unfold vEq
    split <;> first | (intro z; cases z) | skip
    split <;> first | (exact g _ (.ok _) (fun _ _ z => by cases z) c ds) | (intro z; cases z)
  have qo : ∀ (o : Option Bool) c ds, Res.ofOpt o ≠ .ex c ds := fun o c ds z => by cases o <;> cases z
  have q2 : ∀ x y : D, ∀ c ds, vIn x y ≠ .ex c ds := fun x y c ds => by
    cases y with
    | str s => cases x <;> (intro z; cases z)
    | lst m ds' => exact qo _ c ds
    | tup m ds' => exact qo _ c ds
    | dic m ks ds' => exact qo _ c ds
    | _ => intro z; cases z
  have nb : ∀ (r : Res Bool), (∀ c ds, r ≠ .ex c ds) → ∀ c ds, (r.bind fun b => .ok (!b) : Res Bool) ≠ .ex c ds := fun r h c ds => by
    cases r with
    | ok a => intro z; cases z
    | ex c' d' => exact absurd rfl (h c' d')
    | stuck => intro z; cases z
  intro c ds
  cases o with
  | eq => rw [show vCop .eq x y = vEq x y by cases x <;> cases y <;> rfl]; exact q x y c ds
  | ne => rw [show vCop .ne x y = (vEq x y).bind fun b => .ok (!b) by cases x <;> cases y <;> rfl]; exact nb _ (q x y) c ds
  | isin => rw [show vCop .isin x y = vIn x y by cases x <;> cases y <;> rfl]; exact q2 x y c ds
  | notin => rw [show vCop .notin x y = (vIn x y).bind fun b => .ok (!b) by cases x <;> cases y <;> rfl]; exact nb _ (q2 x y) c ds
  | _ => cases x <;> cases y <;> (intro z; cases z)
theorem vTru_er (x : D) : vTru x.er = vTru x := by
  cases x with
  | tup m ds => show Res.ok (!(D.ers ds).isEmpty) = _; rw [ers_emp]; rfl
  | lst m ds => show Res.ok (!(D.ers ds).isEmpty) = _; rw [ers_emp]; rfl
  | _ => rfl
theorem vTru_nx (x : D) : ∀ c ds, vTru x ≠ .ex c ds := by
  intro c ds
  cases x with
  | str x => show Res.guard _ _ ≠ _; cases decide (x.length ≤ sizeLine) <;> (intro z; cases z)
  | _ => intro z; cases z
theorem vBl_er (x : D) : vBl x.er = vBl x := by cases x <;> rfl
theorem vBl_nx (x : D) : ∀ c ds, vBl x ≠ .ex c ds := by cases x <;> (intro c ds z; cases z)
theorem vInt_er (x : D) : vInt x.er = vInt x := by cases x <;> rfl
theorem vInt_nx (x : D) : ∀ c ds, vInt x ≠ .ex c ds := by cases x <;> (intro c ds z; cases z)
theorem vKey_er (x : D) : vKey x.er = vKey x := by cases x <;> rfl
theorem vKey_nx (x : D) : ∀ c ds, vKey x ≠ .ex c ds := by cases x <;> (intro c ds z; cases z)
section
variable {c c1 c2 : Cl} {d0 d x0 x y0 y : D}
theorem rr_tru (v : Vc c d0 d) : RRp (fun a b => a = b) (vTru d0) (vTru d) := by
  rw [← v.e, vTru_er]; exact RRp.eq (vTru_nx d)
theorem rr_bl (v : Vc c d0 d) : RRp (fun a b => a = b) (vBl d0) (vBl d) := by
  rw [← v.e, vBl_er]; exact RRp.eq (vBl_nx d)
theorem rr_int (v : Vc c d0 d) : RRp (fun a b => a = b) (vInt d0) (vInt d) := by
  rw [← v.e, vInt_er]; exact RRp.eq (vInt_nx d)
theorem rr_key (v : Vc c d0 d) : RRp (fun a b => a = b) (vKey d0) (vKey d) := by
  rw [← v.e, vKey_er]; exact RRp.eq (vKey_nx d)
theorem rr_cop (o : Cop) (v : Vc c1 x0 x) (w : Vc c2 y0 y) : RRp (fun a b => a = b) (vCop o x0 y0) (vCop o x y) := by
  rw [← v.e, ← w.e, vCop_er]; exact RRp.eq (vCop_nx o x y)
theorem rr_neg (v : Vc c d0 d) : RRp (Vc Cl.F) (vNeg d0) (vNeg d) := by
  rw [← v.e]
  cases d <;> first | trivial | exact .ok vc_int
theorem rr_scal (o : Bop) (ho : o ≠ .cat) (v : Vc c1 x0 x) (w : Vc c2 y0 y) : RRp (Vc Cl.F) (vBopZ o x0 y0) (vBop o x y) := by
  rw [← v.e, ← w.e]
  cases o <;> first | exact absurd rfl ho | skip
  all_goals (cases x <;> cases y <;> first | trivial | exact .ok vc_int | exact .guard id (.ok vc_int) | exact .guard id (.ok vc_str))
theorem own_fz {ds : List D} (h : ∀ d ∈ ds, d.wm = true ∧ d.cl = true) : D.wms .own (D.own2s .fz ds) = true ∧ ∀ x ∈ D.own2s .fz ds, x.md = .fz := by
  have hm : ∀ x ∈ D.own2s .fz ds, x.md = .fz ∧ x.wm = true := fun x hx => by
    rw [own2s_map] at hx
    obtain ⟨z, hz, rfl⟩ := List.mem_map.mp hx
    obtain ⟨h1, h2⟩ := h z hz
    have := vc_cfz h1 h2
    exact ⟨(this.fz rfl).2, this.w⟩
  exact ⟨wms_iff.mpr fun x hx => ⟨by rw [(hm x hx).1]; rfl, (hm x hx).2⟩, fun x hx => (hm x hx).1⟩
/-- a new list of what may be kept -/
theorem vc_new {ds : List D} (h : ∀ d ∈ ds, d.wm = true ∧ d.cl = true) : Vc (Cl.own true) (.lst .fz (D.ers ds)) (.lst .own (D.own2s .fz ds)) := by
  obtain ⟨h1, h2⟩ := own_fz h
  refine ⟨?_, h1, rfl, fun _ x hx => h2 x hx⟩
  show D.lst .fz _ = _
  rw [ers_own2s]
theorem cls_of {ds : List D} {m : Md} (v : Vc c (D.lst .fz (D.ers ds)) (.lst m ds)) (hk : c.kc = true) : ∀ d ∈ ds, d.wm = true ∧ d.cl = true := fun z hz => ⟨(wm_kid v.w (d := .lst m ds) hz).2, v.kcl hk hz⟩
theorem scal_own1 (v : Vc Cl.F d0 d) : Vc Cl.own1 d0 d := v.le rfl
theorem rr_add (v : Vc c1 x0 x) (w : Vc c2 y0 y) (h1 : c1.kc = true) (h2 : c2.kc = true) (b1 : c1.b = false) (b2 : c2.b = false) : RRp (Vc (Cl.own true)) (vBopZ .cat x0 y0) (vBop .cat x y) := by
  have e1 := v.e
  have e2 := w.e
  subst e1 e2
  cases x <;> cases y <;> first | trivial | skip
  next m xs m' ys =>
    have g1 : ¬ m = .br := fun e => by
      have := v.h.1
      subst e
      simp only [D.md, Cl.ok] at this
      rw [b1] at this; cases this
    have g2 : ¬ m' = .br := fun e => by
      have := w.h.1
      subst e
      simp only [D.md, Cl.ok] at this
      rw [b2] at this; cases this
    have k1 := cls_of v h1
    have k2 := cls_of w h2
    show RRp _ (Res.guard _ _) (Res.guard _ _)
    rw [ers_len, ers_len]
    refine .guard (fun hs => ?_) (.ok ?_)
    · simp only [Bool.and_eq_true, Bool.not_eq_true', decide_eq_false_iff_not, List.all_eq_true]
      exact ⟨⟨⟨g1, g2⟩, hs⟩, fun z hz => (k1 z hz).2, fun z hz => (k2 z hz).2⟩
    · have := vc_new (ds := xs ++ ys) (fun d hd => (List.mem_append.mp hd).elim (k1 d) (k2 d))
      rw [ers_app] at this
      have e : D.own2s .fz (xs ++ ys) = D.own2s .fz xs ++ D.own2s .fz ys := by simp [own2s_map]
      rw [e] at this
      exact this
theorem atFld_er (f : Nat) : ∀ (fs : List Nat) (ds : List D), atFld f fs (D.ers ds) = (atFld f fs ds).map D.er ∧ ∀ x, atFld f fs ds = some x → x ∈ ds
  | [], ds => ⟨by cases ds <;> rfl, fun x h => by cases ds <;> cases h⟩
  | q :: fs, [] => ⟨rfl, fun x h => by cases h⟩
  | q :: fs, d :: ds => by
    obtain ⟨i1, i2⟩ := atFld_er f fs ds
    show (if q = f then some d.er else atFld f fs (D.ers ds)) = ((if q = f then some d else atFld f fs ds) : Option D).map D.er ∧ ∀ x, (if q = f then some d else atFld f fs ds) = some x → x ∈ d :: ds
    split
    · exact ⟨rfl, fun x h => by cases h; simp⟩
    · exact ⟨i1, fun x h => List.mem_cons_of_mem _ (i2 x h)⟩
theorem atKey_er (k : Key) : ∀ (ks : List Key) (ds : List D), atKeyD k ks (D.ers ds) = (atKeyD k ks ds).map D.er ∧ ∀ x, atKeyD k ks ds = some x → x ∈ ds
  | [], ds => ⟨by cases ds <;> rfl, fun x h => by cases ds <;> cases h⟩
  | q :: fs, [] => ⟨rfl, fun x h => by cases h⟩
  | q :: fs, d :: ds => by
    obtain ⟨i1, i2⟩ := atKey_er k fs ds
    show (if q = k then some d.er else atKeyD k fs (D.ers ds)) = ((if q = k then some d else atKeyD k fs ds) : Option D).map D.er ∧ ∀ x, (if q = k then some d else atKeyD k fs ds) = some x → x ∈ d :: ds
    split
    · exact ⟨rfl, fun x h => by cases h; simp⟩
    · exact ⟨i1, fun x h => List.mem_cons_of_mem _ (i2 x h)⟩
theorem rr_opt {o : Option D} (h : ∀ x, o = some x → Vc c x.er x) : RRp (Vc c) (Res.ofOpt (o.map D.er)) (Res.ofOpt o) := by
  cases o with
  | none => trivial
  | some x => exact .ok (h x rfl)
theorem rr_fld {ok : Nat → Nat → Bool} {f : Nat} (v : Vc c d0 d) : RRp (Vc c.child) (vFld ok f d0) (vFld ok f d) := by
  have e := v.e
  subst e
  cases d with
  | ins m q fs ds =>
    obtain ⟨h1, h2⟩ := atFld_er f fs ds
    show RRp _ (Res.guard _ (Res.ofOpt (atFld f fs (D.ers ds)))) (Res.guard _ (Res.ofOpt (atFld f fs ds)))
    rw [h1]
    exact .guard id (rr_opt fun x hx => v.kid (h2 x hx))
  | _ => trivial
theorem atI_er (ds : List D) (i : Int) : atI (D.ers ds) i = (atI ds i).map D.er ∧ ∀ x, atI ds i = some x → x ∈ ds := by
  unfold atI
  rw [ers_len]
  cases ixN ds.length i with
  | none => exact ⟨rfl, fun x h => by cases h⟩
  | some j =>
    refine ⟨?_, fun x h => List.mem_of_getElem? h⟩
    show (D.ers ds)[j]? = (ds[j]?).map D.er
    rw [ers_map, List.getElem?_map]
theorem rr_ix (v : Vc c1 x0 x) (w : Vc c2 y0 y) (hF : Cl.le Cl.F c1.child = true) : RRp (Vc c1.child) (vIx x0 y0) (vIx x y) := by
  have e1 := v.e
  have e2 := w.e
  subst e1 e2
  cases x with
  | lst m ds =>
    cases y <;> first | trivial | skip
    next i =>
    obtain ⟨h1, h2⟩ := atI_er ds i
    show RRp _ (Res.ofOpt (atI (D.ers ds) i)) (Res.ofOpt (atI ds i))
    rw [h1]
    exact rr_opt fun x hx => v.kid (h2 x hx)
  | tup m ds =>
    cases y <;> first | trivial | skip
    next i =>
    obtain ⟨h1, h2⟩ := atI_er ds i
    show RRp _ (Res.ofOpt (atI (D.ers ds) i)) (Res.ofOpt (atI ds i))
    rw [h1]
    exact rr_opt fun x hx => v.kid (h2 x hx)
  | str z =>
    cases y <;> first | trivial | skip
    next i =>
    refine .guard id ?_
    cases atI z.cps.toList i with
    | none => trivial
    | some q => exact .ok (vc_str.le hF)
  | dic m ks ds =>
    show RRp _ (Res.ofOpt (y.er.key.bind fun k => atKeyD k ks (D.ers ds))) (Res.ofOpt (y.key.bind fun k => atKeyD k ks ds))
    rw [key_er]
    cases y.key with
    | none => trivial
    | some k =>
      obtain ⟨h1, h2⟩ := atKey_er k ks ds
      show RRp _ (Res.ofOpt (atKeyD k ks (D.ers ds))) (Res.ofOpt (atKeyD k ks ds))
      rw [h1]
      exact rr_opt fun x hx => v.kid (h2 x hx)
  | _ => trivial
theorem cutD_sub {α : Type} {xs : List α} {lo hi : Option Int} {x : α} (h : x ∈ cutD xs lo hi) : x ∈ xs := List.mem_of_mem_drop (List.mem_of_mem_take h)
theorem rr_slc {lo hi : Option Int} (v : Vc c d0 d) (hk : c.kc = true) : RRp (Vc Cl.own1) (vSlcZ d0 lo hi) (vSlc d lo hi) := by
  have e := v.e
  subst e
  cases d with
  | lst m ds =>
    have k1 := cls_of v hk
    show RRp _ (Res.ok _) (Res.guard _ _)
    refine .guardR (List.all_eq_true.mpr fun z hz => (k1 z (cutD_sub hz)).2) (.ok ?_)
    have := vc_new (ds := cutD ds lo hi) (fun z hz => k1 z (cutD_sub hz))
    rw [show D.ers (cutD ds lo hi) = cutD (D.ers ds) lo hi by rw [ers_map, ers_map, cutD_map]] at this
    exact this.le rfl
  | str z => exact .guard id (.ok (scal_own1 vc_str))
  | _ => trivial
end
end GS

namespace GS
open PySem PySem.Spec PyProof.Rows L2

/-! ## built-ins, walks, targets -/
section
variable {c c1 c2 : Cl} {d0 d x0 x y0 y : D}
theorem rr_bo (o : Option Bool) : RRp (Vc Cl.F) (Res.ofOpt (o.map fun b => D.bl b)) (Res.ofOpt (o.map fun b => D.bl b)) := by
  cases o with
  | none => trivial
  | some b => exact .ok vc_bl
theorem vc_keys (ks : List Key) : Vc (Cl.own true) (.lst .fz (ks.map keyD)) (.lst .own (ks.map keyD)) := by
  have h : ∀ x ∈ ks.map keyD, x.md = .fz ∧ x.wm = true := fun x hx => by
    obtain ⟨k, _, rfl⟩ := List.mem_map.mp hx
    exact ⟨((vc_key k).fz rfl).2, (vc_key k).w⟩
  refine ⟨?_, wms_iff.mpr fun x hx => ⟨by rw [(h x hx).1]; rfl, (h x hx).2⟩, rfl, fun _ x hx => (h x hx).1⟩
  show D.lst .fz (D.ers _) = _
  rw [ers_map, List.map_map]
  congr 1
  refine List.map_congr_left fun k _ => ?_
  cases k <;> rfl
theorem rr_len (v : Vc c d0 d) : RRp (Vc Cl.F) (vBltZ .len [d0]) (vBlt .len [d]) := by
  have e := v.e
  subst e
  cases d with
  | lst m ds => show RRp _ (Res.ok (D.int ((D.ers ds).length : Nat))) _; rw [ers_len]; exact .ok vc_int
  | tup m ds => show RRp _ (Res.ok (D.int ((D.ers ds).length : Nat))) _; rw [ers_len]; exact .ok vc_int
  | dic m ks ds => exact .ok vc_int
  | str x => exact .guard id (.ok vc_int)
  | _ => trivial
theorem rr_list (v : Vc c d0 d) (hk : c.kc = true) : RRp (Vc (Cl.own true)) (vBltZ .list [d0]) (vBlt .list [d]) := by
  have e := v.e
  subst e
  cases d with
  | lst m ds =>
    have k1 := cls_of v hk
    exact .guardR (List.all_eq_true.mpr fun z hz => (k1 z hz).2) (.ok (vc_new k1))
  | tup m ds =>
    have k1 : ∀ d ∈ ds, d.wm = true ∧ d.cl = true := fun z hz => ⟨(wm_kid v.w (d := .tup m ds) hz).2, v.kcl hk hz⟩
    exact .guardR (List.all_eq_true.mpr fun z hz => (k1 z hz).2) (.ok (vc_new k1))
  | dic m ks ds => exact .ok (vc_keys ks)
  | _ => trivial
theorem rr_dict (v : Vc c d0 d) (hk : c.kc = true) : RRp (Vc (Cl.own true)) (vBltZ .dict [d0]) (vBlt .dict [d]) := by
  have e := v.e
  subst e
  cases d with
  | dic m ks ds =>
    have k1 : ∀ d ∈ ds, d.wm = true ∧ d.cl = true := fun z hz => ⟨(wm_kid v.w (d := .dic m ks ds) hz).2, v.kcl hk hz⟩
    refine .guardR (List.all_eq_true.mpr fun z hz => (k1 z hz).2) (.ok ?_)
    obtain ⟨h1, h2⟩ := own_fz k1
    refine ⟨?_, h1, rfl, fun _ x hx => h2 x hx⟩
    show D.dic .fz ks _ = _
    rw [ers_own2s]
  | _ => trivial
theorem rr_one (b : Blt) (hb : b ≠ .list) (hb2 : b ≠ .dict) (v : Vc c d0 d) : RRp (Vc Cl.F) (vBltZ b [d0]) (vBlt b [d]) := by
  cases b with
  | len => exact rr_len v
  | list => exact absurd rfl hb
  | dict => exact absurd rfl hb2
  | any =>
    have e := v.e
    subst e
    cases d with
    | lst m ds =>
      show RRp _ (Res.ofOpt ((allBl (D.ers ds)).map fun bs => D.bl (bs.any id))) (Res.ofOpt ((allBl ds).map fun bs => D.bl (bs.any id)))
      rw [allBl_er]
      cases allBl ds <;> first | trivial | exact .ok vc_bl
    | _ => trivial
  | all =>
    have e := v.e
    subst e
    cases d with
    | lst m ds =>
      show RRp _ (Res.ofOpt ((allBl (D.ers ds)).map fun bs => D.bl (bs.all id))) (Res.ofOpt ((allBl ds).map fun bs => D.bl (bs.all id)))
      rw [allBl_er]
      cases allBl ds <;> first | trivial | exact .ok vc_bl
    | _ => trivial
  | int =>
    have e := v.e
    subst e
    cases d with
    | str x =>
      show RRp _ (match PySem.intText? x with
        | some n => Res.guard (decide (x.length ≤ 640)) (Res.ok (D.int n))
        | none => .stuck) (match PySem.intText? x with
        | some n => Res.guard (decide (x.length ≤ 640)) (Res.ok (D.int n))
        | none => .stuck)
      cases PySem.intText? x with
      | none => trivial
      | some n => exact .guard id (.ok vc_int)
    | int i => exact .ok vc_int
    | bl i => exact .ok vc_int
    | _ => trivial
  | _ =>
    have e := v.e
    subst e
    cases d <;> first | trivial | exact .ok vc_int | exact .guard id (.ok vc_str)
theorem rr_two (b : Blt) (v : Vc c1 x0 x) (w : Vc c2 y0 y) : RRp (Vc Cl.F) (vBltZ b [x0, y0]) (vBlt b [x, y]) := by
  have e1 := v.e
  have e2 := w.e
  subst e1 e2
  cases b <;> first | trivial | (cases x <;> first | trivial | (cases y <;> first | trivial | exact .ok vc_int))
theorem blt_3 (b : Blt) (x y z : D) (l : List D) : vBltZ b (x :: y :: z :: l) = .stuck := by cases b <;> simp [vBltZ, vBlt]
theorem blt_l (x y : D) (l : List D) : vBltZ .list (x :: y :: l) = .stuck := by simp [vBltZ, vBlt]
theorem blt_d (x y : D) (l : List D) : vBltZ .dict (x :: y :: l) = .stuck := by simp [vBltZ, vBlt]
theorem rr_blt (b : Blt) {cs : List Cl} {as bs : List D} (h : VL cs as bs) {z : Cl} (ha : (match b with
    | .list => if cs.all Cl.kc = true then some (Cl.own true) else none
    | .dict => if cs.all Cl.kc = true then some (Cl.own true) else none
    | _ => some Cl.F) = some z) : RRp (Vc z) (vBltZ b as) (vBlt b bs) := by
  by_cases hl : b = .list
  · subst hl
    dsimp only at ha
    split at ha
    · next hk =>
      cases ha
      cases h with
      | nil => trivial
      | cons v h =>
        cases h with
        | nil => exact rr_list v (by simpa using hk)
        | cons w h => rw [blt_l]; trivial
    · cases ha
  · by_cases hd : b = .dict
    · subst hd
      dsimp only at ha
      split at ha
      · next hk =>
        cases ha
        cases h with
        | nil => trivial
        | cons v h =>
          cases h with
          | nil => exact rr_dict v (by simpa using hk)
          | cons w h => rw [blt_d]; trivial
      · cases ha
    · have hz : z = Cl.F := by cases b <;> first | exact absurd rfl hl | exact absurd rfl hd | (cases ha; rfl)
      subst hz
      cases h with
      | nil => cases b <;> trivial
      | cons v h =>
        cases h with
        | nil => exact rr_one b hl hd v
        | cons w h =>
          cases h with
          | nil => exact rr_two b v w
          | cons w' h => rw [blt_3]; trivial
theorem rr_get2 (v : Vc c d0 d) {k0 k : D} (w : Vc c1 k0 k) (u : Vc c2 y0 y) {z : Cl} (h1 : c.child.le z = true) (h2 : c2.le z = true) : RRp (Vc z) (Res.guard (bmtR .get2 d0) (vBmt .get2 d0 [k0, y0])) (Res.guard (bmtR .get2 d) (vBmt .get2 d [k, y])) := by
  have e := v.e
  subst e
  cases d with
  | dic m ks ds =>
    show RRp _ ((vKey k0).bind fun k => .ok ((atKeyD k ks (D.ers ds)).getD y0)) ((vKey k).bind fun k => .ok ((atKeyD k ks ds).getD y))
    refine (rr_key w).bind fun a b e => ?_
    subst e
    obtain ⟨i1, i2⟩ := atKey_er a ks ds
    rw [i1]
    cases ha : atKeyD a ks ds with
    | none => exact .ok (u.le h2)
    | some q => exact .ok ((v.kid (i2 q ha)).le h1)
  | _ => trivial
theorem ty_er (d : D) : d.er.ty = d.ty := by cases d <;> rfl
theorem rr_isi (sub : Nat → List Nat) (k : Isi) (v : Vc c d0 d) : RRp (fun a b => a = b) (vIsi sub k d0) (vIsi sub k d) := by
  have e := v.e
  subst e
  have : vIsi sub k d.er = vIsi sub k d := by unfold vIsi; rw [ty_er]
  rw [this]
  refine RRp.eq fun c ds => ?_
  unfold vIsi
  have g : ∀ (b : Bool) (x : Bool), (Res.guard b (.ok x) : Res Bool) ≠ .ex c ds := fun b x z => by cases b <;> cases z
  split <;> first | exact g _ _ | (intro z; cases z)
theorem rr_bop (o : Bop) (v : Vc c1 x0 x) (w : Vc c2 y0 y) {z : Cl} (h : (match o with
    | .cat => if (c1.kc && c2.kc && !c1.b && !c2.b) = true then some (Cl.own true) else none
    | _ => some Cl.F) = some z) : RRp (Vc z) (vBopZ o x0 y0) (vBop o x y) := by
  cases o with
  | cat =>
    dsimp only at h
    split at h
    · next hc =>
      cases h
      simp only [Bool.and_eq_true, Bool.not_eq_true'] at hc
      exact rr_add v w hc.1.1.1 hc.1.1.2 hc.1.2 hc.2
    · cases h
  | _ => cases h; exact rr_scal _ (by simp) v w

/-! walks -/
def AL (a : AV) : List D → List D → Prop := All2 fun d0 d => a.has d0 d
theorem F_elem (c : Cl) : Cl.le Cl.F c.elem = true := by
  rcases c with ⟨_ | _, _ | _, _ | _, _ | _, _ | _⟩ <;> rfl
theorem Vc.elem (v : Vc c d0 d) (hx : x ∈ d.kids) (hm : d.md ≠ .own) : Vc c.elem x.er x := by
  have k := v.kid hx
  refine ⟨rfl, k.w, ?_, fun hk => k.h.kk k.w hk⟩
  have h1 := k.h.1
  have h2 := (wm_kid v.w hx).1
  cases e : x.md <;> rw [e] at h1 h2 <;> first | rfl | exact h1 | skip
  cases e' : d.md <;> rw [e'] at h2 <;> first | exact absurd e' hm | cases h2
theorem al_own {ds : List D} (v : Vc c d0 d) (hs : ∀ x ∈ ds, x ∈ d.kids) (hm : d.md = .own) : AL (.leaf c.elem) (D.ers ds) (D.own2s .fz ds) := by
  induction ds with
  | nil => exact .nil
  | cons a ds ih => exact .cons ((v.efz (hs a (by simp)) hm).le (F_elem c)) (ih fun x hx => hs x (by simp [hx]))
theorem al_not {ds : List D} (v : Vc c d0 d) (hs : ∀ x ∈ ds, x ∈ d.kids) (hm : d.md ≠ .own) : AL (.leaf c.elem) (D.ers ds) ds := by
  induction ds with
  | nil => exact .nil
  | cons a ds ih => exact .cons (v.elem (hs a (by simp)) hm) (ih fun x hx => hs x (by simp [hx]))
theorem rr_seq (v : Vc c d0 d) : RRp (AL (.leaf c.elem)) (vSeqZ d0) (vSeq d) := by
  have e := v.e
  subst e
  cases d with
  | lst m ds =>
    cases m with
    | own => exact .ok (al_own v (fun _ h => h) rfl)
    | _ => exact .ok (al_not v (fun _ h => h) (by simp [D.md]))
  | tup m ds =>
    cases m with
    | own => exact .ok (al_own v (fun _ h => h) rfl)
    | _ => exact .ok (al_not v (fun _ h => h) (by simp [D.md]))
  | _ => trivial
theorem rr_lst (v : Vc c d0 d) : RRp (AL (.leaf c.elem)) (vLstZ d0) (vLst d) := by
  have e := v.e
  subst e
  cases d with
  | lst m ds =>
    cases m with
    | own => exact .ok (al_own v (fun _ h => h) rfl)
    | _ => exact .ok (al_not v (fun _ h => h) (by simp [D.md]))
  | _ => trivial
theorem rr_dic (v : Vc c d0 d) : RRp (fun (p q : List Key × List D) => p.1 = q.1 ∧ AL (.leaf c.elem) p.2 q.2) (vDicZ d0) (vDic d) := by
  have e := v.e
  subst e
  cases d with
  | dic m ks ds =>
    cases m with
    | own => exact .ok ⟨rfl, al_own v (fun _ h => h) rfl⟩
    | _ => exact .ok ⟨rfl, al_not v (fun _ h => h) (by simp [D.md])⟩
  | _ => trivial
theorem al_keys : ∀ ks : List Key, AL (.leaf Cl.F) (ks.map keyD) (ks.map keyD)
  | [] => .nil
  | k :: ks => .cons (vc_key k) (al_keys ks)
theorem al_ints {α : Type} (f : α → Int) : ∀ ks : List α, AL (.leaf Cl.F) (ks.map fun i => .int (f i)) (ks.map fun i => .int (f i))
  | [] => .nil
  | k :: ks => .cons vc_int (al_ints f ks)
theorem al_strs {α : Type} (f : α → Str) : ∀ ks : List α, AL (.leaf Cl.F) (ks.map fun i => .str (f i)) (ks.map fun i => .str (f i))
  | [] => .nil
  | k :: ks => .cons vc_str (al_strs f ks)
theorem al_pairs {a b : AV} {xs0 xs ys0 ys : List D} (h : AL a xs0 xs) : AL b ys0 ys → AL (.pr a b) (pairsZ xs0 ys0) (pairs xs ys) := by
  induction h generalizing ys0 ys with
  | nil => intro _; exact .nil
  | cons h _ ih =>
    intro h2
    cases h2 with
    | nil => exact .nil
    | cons h2 h2' => exact .cons ⟨_, _, _, _, rfl, rfl, h, h2⟩ (ih h2')
theorem al_enums {a : AV} {xs0 xs : List D} (h : AL a xs0 xs) : ∀ i, AL (.pr (.leaf Cl.F) a) (enumsZ i xs0) (enums i xs) := by
  induction h with
  | nil => intro i; exact .nil
  | cons h _ ih => intro i; exact .cons ⟨_, _, _, _, rfl, rfl, vc_int, h⟩ (ih (i + 1))
theorem all2_app {α β : Type} {R : α → β → Prop} {as cs : List α} {bs ds : List β} (h : All2 R as bs) (h2 : All2 R cs ds) : All2 R (as ++ cs) (bs ++ ds) := by
  induction h with
  | nil => exact h2
  | cons h _ ih => exact .cons h ih
theorem all2_rev {α β : Type} {R : α → β → Prop} {as : List α} {bs : List β} (h : All2 R as bs) : All2 R as.reverse bs.reverse := by
  induction h with
  | nil => exact .nil
  | cons h _ ih => rw [List.reverse_cons, List.reverse_cons]; exact all2_app ih (.cons h .nil)
theorem elem_no (c : Cl) : (AV.leaf c.elem).noOwn = true := rfl
theorem walk_of {st : Bool} (v : Vc c d0 d) (h : (!st || !c.v) = true) : walkOk st d = true := by
  unfold walkOk
  cases st with
  | false => rfl
  | true =>
    have h1 := v.h.1
    simp at h
    cases e : d.md <;> rw [e] at h1 <;> first | rfl | (simp only [Cl.ok] at h1; rw [h] at h1; cases h1)
end
section
variable {Γ Γ' : List Cl} {s0 s s0' : Sl}
theorem SR.sget (h : SR Γ s0 s) : ∀ {i : Nat} {d : D}, s[i]? = some (some d) → ∃ c d0, Γ[i]? = some c ∧ s0[i]? = some (some d0) ∧ Vc c d0 d := by
  induction h with
  | nil => intro i d0 e; cases e
  | non _ ih => intro i d0 e; cases i with
    | zero => cases e
    | succ i => exact ih (by simpa using e)
  | som v _ ih => intro i d0 e; cases i with
    | zero => cases e; exact ⟨_, _, rfl, rfl, v⟩
    | succ i => exact ih (by simpa using e)
theorem free_of {np i : Nat} (R : SR Γ s0 s) (h : (decide (np ≤ i) || !((Γ[i]?.map (·.o)).getD true)) = true) : freeAt np s i = true := by
  unfold freeAt
  rw [Bool.or_eq_true] at h
  rcases h with h | h
  · rw [decide_eq_true_eq] at h
    rw [decide_eq_false (by omega)]; rfl
  · cases e : s[i]? with
    | none => simp
    | some o =>
      cases o with
      | none => simp
      | some d =>
        obtain ⟨c, d0, h1, _, v⟩ := R.sget e
        rw [h1] at h
        simp at h
        have h2 := v.h.1
        cases e' : d.md <;> first | (simp [e']; done) | (rw [e'] at h2; simp only [Cl.ok] at h2; rw [h] at h2; cases h2)
mutual
theorem btC : ∀ (g : Tg) (a : AV) (Γ Γ' : List Cl), aB okC g a Γ = some Γ' → a.noOwn = true ∨ (∃ c, a = .leaf c) → ∀ (s0 s s0' : Sl) (d0 d : D), SR Γ s0 s → a.has d0 d → bindT g d0 s0 = some s0' → ∃ s', bindT g d s = some s' ∧ SR Γ' s0' s'
  | .nm i, a, Γ, Γ', h, hn, s0, s, s0', d0, d, R, ha, hb => by
    unfold aB at h
    split at h
    · next hk =>
      cases h
      unfold bindT at hb
      cases hb
      have v : Vc a.cl d0 d := by
        rcases hn with hn | ⟨c, rfl⟩
        · exact AV.toCl a hn ha
        · exact ha
      exact ⟨_, by unfold bindT; rfl, R.set v i⟩
    · cases h
  | .tp gs, .leaf c, Γ, Γ', h, hn, s0, s, s0', d0, d, R, ha, hb => by
    unfold aB at h
    have e := ha.e
    subst e
    cases d with
    | tup m ds => exact btC_s gs c.child Γ Γ' h s0 s s0' ds R (fun x hx => Vc.kid ha hx) hb
    | lst m ds => exact btC_s gs c.child Γ Γ' h s0 s s0' ds R (fun x hx => Vc.kid ha hx) hb
    | _ => unfold bindT at hb; cases hb
  | .tp gs, .pr a b, Γ, Γ', h, hn, s0, s, s0', d0, d, R, ha, hb => by
    unfold aB at h
    obtain ⟨x0, y0, x, y, rfl, rfl, h1, h2⟩ := ha
    have hn' : a.noOwn = true ∧ b.noOwn = true := by
      rcases hn with hn | ⟨c, hn⟩
      · unfold AV.noOwn at hn; simpa using hn
      · cases hn
    exact btC_p gs a b Γ Γ' h hn'.1 hn'.2 s0 s s0' x0 y0 x y R h1 h2 hb
theorem btC_s : ∀ (gs : List Tg) (c : Cl) (Γ Γ' : List Cl), aBs okC gs c Γ = some Γ' → ∀ (s0 s s0' : Sl) (ds : List D), SR Γ s0 s → (∀ x ∈ ds, Vc c x.er x) → bindTs gs (D.ers ds) s0 = some s0' → ∃ s', bindTs gs ds s = some s' ∧ SR Γ' s0' s'
  | [], c, Γ, Γ', h, s0, s, s0', ds, R, hd, hb => by
    unfold aBs at h
    cases h
    cases ds with
    | nil => unfold D.ers bindTs at hb; cases hb; exact ⟨s, by unfold bindTs; rfl, R⟩
    | cons _ _ => unfold D.ers bindTs at hb; cases hb
  | g :: gs, c, Γ, Γ', h, s0, s, s0', ds, R, hd, hb => by
    unfold aBs at h
    obtain ⟨Γ1, h1, h2⟩ := Option.bind_eq_some_iff.mp h
    cases ds with
    | nil => unfold D.ers bindTs at hb; cases hb
    | cons x ds =>
      unfold D.ers bindTs at hb
      obtain ⟨s1, b1, b2⟩ := Option.bind_eq_some_iff.mp hb
      obtain ⟨s2, e1, R1⟩ := btC g (.leaf c) Γ Γ1 h1 (.inr ⟨c, rfl⟩) s0 s s1 x.er x R (hd x (by simp)) b1
      obtain ⟨s3, e2, R2⟩ := btC_s gs c Γ1 Γ' h2 s1 s2 s0' ds R1 (fun y hy => hd y (by simp [hy])) b2
      exact ⟨s3, by unfold bindTs; rw [e1]; exact e2, R2⟩
theorem btC_p : ∀ (gs : List Tg) (a b : AV) (Γ Γ' : List Cl), aBp okC gs a b Γ = some Γ' → a.noOwn = true → b.noOwn = true → ∀ (s0 s s0' : Sl) (x0 y0 x y : D), SR Γ s0 s → a.has x0 x → b.has y0 y → bindTs gs [x0, y0] s0 = some s0' → ∃ s', bindTs gs [x, y] s = some s' ∧ SR Γ' s0' s'
  | [], a, b, Γ, Γ', h, _, _, s0, s, s0', x0, y0, x, y, R, ha, hb', hb => by unfold aBp at h; cases h
  | g :: gs, a, b, Γ, Γ', h, na, nb, s0, s, s0', x0, y0, x, y, R, ha, hb', hb => by
    unfold aBp at h
    obtain ⟨Γ1, h1, h2⟩ := Option.bind_eq_some_iff.mp h
    unfold bindTs at hb
    obtain ⟨s1, b1, b2⟩ := Option.bind_eq_some_iff.mp hb
    obtain ⟨s2, e1, R1⟩ := btC g a Γ Γ1 h1 (.inl na) s0 s s1 x0 x R ha b1
    obtain ⟨s3, e2, R2⟩ := btC_1 gs b Γ1 Γ' h2 nb s1 s2 s0' y0 y R1 hb' b2
    exact ⟨s3, by unfold bindTs; rw [e1]; exact e2, R2⟩
theorem btC_1 : ∀ (gs : List Tg) (a : AV) (Γ Γ' : List Cl), aB1 okC gs a Γ = some Γ' → a.noOwn = true → ∀ (s0 s s0' : Sl) (x0 x : D), SR Γ s0 s → a.has x0 x → bindTs gs [x0] s0 = some s0' → ∃ s', bindTs gs [x] s = some s' ∧ SR Γ' s0' s'
  | [], a, Γ, Γ', h, _, s0, s, s0', x0, x, R, ha, hb => by unfold aB1 at h; cases h
  | g :: gs, a, Γ, Γ', h, na, s0, s, s0', x0, x, R, ha, hb => by
    unfold aB1 at h
    split at h
    · next hg =>
      have hg : gs = [] := List.isEmpty_iff.mp hg
      subst hg
      unfold bindTs at hb
      obtain ⟨s1, b1, b2⟩ := Option.bind_eq_some_iff.mp hb
      obtain ⟨s2, e1, R1⟩ := btC g a Γ Γ' h (.inl na) s0 s s1 x0 x R ha b1
      unfold bindTs at b2
      cases b2
      exact ⟨s2, by unfold bindTs; rw [e1]; show bindTs [] [] s2 = some s2; unfold bindTs; rfl, R1⟩
    · cases h
end
mutual
theorem btS (np : Nat) : ∀ (g : Tg) (a : AV) (Γ Γ' : List Cl), aB (okS np) g a Γ = some Γ' → a.noOwn = true ∨ (∃ c, a = .leaf c) → ∀ (s0 s s0' : Sl) (d0 d : D), SR Γ s0 s → a.has d0 d → bindT g d0 s0 = some s0' → ∃ s', bindS np g d s = some s' ∧ SR Γ' s0' s'
  | .nm i, a, Γ, Γ', h, hn, s0, s, s0', d0, d, R, ha, hb => by
    unfold aB at h
    split at h
    · next hk =>
      cases h
      unfold bindT at hb
      cases hb
      have v : Vc a.cl d0 d := by
        rcases hn with hn | ⟨c, rfl⟩
        · exact AV.toCl a hn ha
        · exact ha
      simp only [okS, Bool.and_eq_true, Bool.not_eq_true'] at hk
      refine ⟨s.set i (some d), ?_, R.set v i⟩
      unfold bindS setS
      rw [free_of R hk.2, v.notVw hk.1]; rfl
    · cases h
  | .tp gs, .leaf c, Γ, Γ', h, hn, s0, s, s0', d0, d, R, ha, hb => by
    unfold aB at h
    have e := ha.e
    subst e
    cases d with
    | tup m ds => exact btS_s np gs c.child Γ Γ' h s0 s s0' ds R (fun x hx => Vc.kid ha hx) hb
    | lst m ds => exact btS_s np gs c.child Γ Γ' h s0 s s0' ds R (fun x hx => Vc.kid ha hx) hb
    | _ => unfold bindT at hb; cases hb
  | .tp gs, .pr a b, Γ, Γ', h, hn, s0, s, s0', d0, d, R, ha, hb => by
    unfold aB at h
    obtain ⟨x0, y0, x, y, rfl, rfl, h1, h2⟩ := ha
    have hn' : a.noOwn = true ∧ b.noOwn = true := by
      rcases hn with hn | ⟨c, hn⟩
      · unfold AV.noOwn at hn; simpa using hn
      · cases hn
    exact btS_p np gs a b Γ Γ' h hn'.1 hn'.2 s0 s s0' x0 y0 x y R h1 h2 hb
theorem btS_s (np : Nat) : ∀ (gs : List Tg) (c : Cl) (Γ Γ' : List Cl), aBs (okS np) gs c Γ = some Γ' → ∀ (s0 s s0' : Sl) (ds : List D), SR Γ s0 s → (∀ x ∈ ds, Vc c x.er x) → bindTs gs (D.ers ds) s0 = some s0' → ∃ s', bindSs np gs ds s = some s' ∧ SR Γ' s0' s'
  | [], c, Γ, Γ', h, s0, s, s0', ds, R, hd, hb => by
    unfold aBs at h
    cases h
    cases ds with
    | nil => unfold D.ers bindTs at hb; cases hb; exact ⟨s, by unfold bindSs; rfl, R⟩
    | cons _ _ => unfold D.ers bindTs at hb; cases hb
  | g :: gs, c, Γ, Γ', h, s0, s, s0', ds, R, hd, hb => by
    unfold aBs at h
    obtain ⟨Γ1, h1, h2⟩ := Option.bind_eq_some_iff.mp h
    cases ds with
    | nil => unfold D.ers bindTs at hb; cases hb
    | cons x ds =>
      unfold D.ers bindTs at hb
      obtain ⟨s1, b1, b2⟩ := Option.bind_eq_some_iff.mp hb
      obtain ⟨s2, e1, R1⟩ := btS np g (.leaf c) Γ Γ1 h1 (.inr ⟨c, rfl⟩) s0 s s1 x.er x R (hd x (by simp)) b1
      obtain ⟨s3, e2, R2⟩ := btS_s np gs c Γ1 Γ' h2 s1 s2 s0' ds R1 (fun y hy => hd y (by simp [hy])) b2
      exact ⟨s3, by unfold bindSs; rw [e1]; exact e2, R2⟩
theorem btS_p (np : Nat) : ∀ (gs : List Tg) (a b : AV) (Γ Γ' : List Cl), aBp (okS np) gs a b Γ = some Γ' → a.noOwn = true → b.noOwn = true → ∀ (s0 s s0' : Sl) (x0 y0 x y : D), SR Γ s0 s → a.has x0 x → b.has y0 y → bindTs gs [x0, y0] s0 = some s0' → ∃ s', bindSs np gs [x, y] s = some s' ∧ SR Γ' s0' s'
  | [], a, b, Γ, Γ', h, _, _, s0, s, s0', x0, y0, x, y, R, ha, hb', hb => by unfold aBp at h; cases h
  | g :: gs, a, b, Γ, Γ', h, na, nb, s0, s, s0', x0, y0, x, y, R, ha, hb', hb => by
    unfold aBp at h
    obtain ⟨Γ1, h1, h2⟩ := Option.bind_eq_some_iff.mp h
    unfold bindTs at hb
    obtain ⟨s1, b1, b2⟩ := Option.bind_eq_some_iff.mp hb
    obtain ⟨s2, e1, R1⟩ := btS np g a Γ Γ1 h1 (.inl na) s0 s s1 x0 x R ha b1
    obtain ⟨s3, e2, R2⟩ := btS_1 np gs b Γ1 Γ' h2 nb s1 s2 s0' y0 y R1 hb' b2
    exact ⟨s3, by unfold bindSs; rw [e1]; exact e2, R2⟩
theorem btS_1 (np : Nat) : ∀ (gs : List Tg) (a : AV) (Γ Γ' : List Cl), aB1 (okS np) gs a Γ = some Γ' → a.noOwn = true → ∀ (s0 s s0' : Sl) (x0 x : D), SR Γ s0 s → a.has x0 x → bindTs gs [x0] s0 = some s0' → ∃ s', bindSs np gs [x] s = some s' ∧ SR Γ' s0' s'
  | [], a, Γ, Γ', h, _, s0, s, s0', x0, x, R, ha, hb => by unfold aB1 at h; cases h
  | g :: gs, a, Γ, Γ', h, na, s0, s, s0', x0, x, R, ha, hb => by
    unfold aB1 at h
    split at h
    · next hg =>
      have hg : gs = [] := List.isEmpty_iff.mp hg
      subst hg
      unfold bindTs at hb
      obtain ⟨s1, b1, b2⟩ := Option.bind_eq_some_iff.mp hb
      obtain ⟨s2, e1, R1⟩ := btS np g a Γ Γ' h (.inl na) s0 s s1 x0 x R ha b1
      unfold bindTs at b2
      cases b2
      exact ⟨s2, by unfold bindSs; rw [e1]; show bindSs np [] [] s2 = some s2; unfold bindSs; rfl, R1⟩
    · cases h
end
end
end GS

namespace GS
open PySem PySem.Spec PyProof.Rows L2

/-! ## expressions keep what was told ahead -/
def ROR (sf c : Cl) (as : List D) (r0 r : RO) : Prop := match r0 with
  | .stuck => True
  | .ret d0 s0 => ∃ d fins, r = .ret d fins ∧ Vc c d0 d ∧ ((∃ a t, as = a :: t ∧ a.md = .own) → ∀ x0 t0, s0 = some x0 :: t0 → ∃ x t, fins = some x :: t ∧ Vc sf x0 x)
  | .ex e ds _ => ∃ fs, r = .ex e ds fs ∧ ∀ d ∈ ds, Vc Cl.F d d
structure GR (A : AG) (Z G : GE) : Prop where
  glob : ∀ g, A.gl g = true → Z.glob g = G.glob g ∧ Vc Cl.F (G.glob g) (G.glob g)
  meth : Z.meth = G.meth
  frz : A.frz = G.frz
  sub : Z.sub = G.sub
  init : Z.init = G.init
  ainit : A.init = G.init
  fok : Z.fok = G.fok
  xf : Z.xf = G.xf
  call : ∀ f ps c, A.sg f = some (ps, c) → ∀ as0 as, AR ps as0 as → ROR (A.fs f) c as (Z.call f as0) (G.call f as)
  make : ∀ f ps c, A.sg f = some (ps, c) → ∀ as0 as, AR ps as0 as → ROR (A.fs f) c as (Z.make f as0) (G.make f as)
  ms : ∀ m p, A.ms m = some p → ∀ k f, G.meth k m = some f → A.sg f = some p
theorem ROR.val {sf c : Cl} {as : List D} {r0 r : RO} (h : ROR sf c as r0 r) : RRp (Vc c) r0.val r.val := by
  cases r0 with
  | stuck => trivial
  | ret d0 s0 => obtain ⟨d, fins, e, v, _⟩ := h; rw [e]; exact ⟨d, rfl, v⟩
  | ex e ds s0 => obtain ⟨fs, e, v⟩ := h; rw [e]; exact ⟨rfl, v⟩
theorem vc_nonI {c : Cl} {d : D} (v : Vc c .non d) : d = .non := by
  have := v.e
  cases d <;> first | rfl | cases this
theorem frz_F {c : Cl} (h : c.cl = true) : c.frz.le Cl.F = true := by
  rcases c with ⟨_ | _, _ | _, _ | _, _ | _, _ | _⟩ <;> first | rfl | cases h
theorem ROR.made {sf c : Cl} {a : D} {as : List D} {r0 r : RO} (ha : a.md = .own) (hc : sf.cl = true) (b : Bool) (h : ROR sf c (a :: as) r0 r) : RRp (Vc (if b = true then Cl.F else sf)) r0.madeZ (r.made b) := by
  cases r0 with
  | stuck => trivial
  | ex e ds s0 => obtain ⟨fs, e, v⟩ := h; rw [e]; exact ⟨rfl, v⟩
  | ret d0 s0 =>
    obtain ⟨d, fins, e, v, hf⟩ := h
    rw [e]
    have tr : ∀ r, RRp (Vc (if b = true then Cl.F else sf)) .stuck r := fun _ => trivial
    cases d0 <;> first | exact tr _ | skip
    cases vc_nonI v
    cases s0 with
    | nil => trivial
    | cons o s0 =>
      cases o with
      | none => trivial
      | some x0 =>
        obtain ⟨x, t, rfl, vx⟩ := hf ⟨a, as, rfl, ha⟩ x0 s0 rfl
        refine .guardR (vx.cl hc) ?_
        cases b with
        | true => exact .ok (vx.frz.le (frz_F hc))
        | false => exact .ok vx
def VA (c : Cl) : List D → List D → Prop := All2 (Vc c)
theorem rr_comp {Γ : List Cl} {av : AV} {c : Cl} {bnd0 bnd : D → Option Sl} {tst0 tst : Sl → Res Bool} {elt0 elt : Sl → Res D} (hb : ∀ d0 d, av.has d0 d → ∀ s0, bnd0 d0 = some s0 → ∃ s, bnd d = some s ∧ SR Γ s0 s)
    (ht : ∀ s0 s, SR Γ s0 s → RRp (fun a b => a = b) (tst0 s0) (tst s)) (he : ∀ s0 s, SR Γ s0 s → RRp (Vc c) (elt0 s0) (elt s)) (hc : c.cl = true) {ds0 ds : List D} (h : AL av ds0 ds) : RRp (VA c) (compZ bnd0 tst0 elt0 ds0) (compL bnd tst elt ds) := by
  induction h with
  | nil => exact .ok .nil
  | cons h _ ih =>
    unfold compZ compL
    refine RRp.bind (P := fun s0 s => SR Γ s0 s) ?_ fun s0 s R => ?_
    · cases e : bnd0 _ with
      | none => trivial
      | some s0 => obtain ⟨s, e1, R⟩ := hb _ _ h s0 e; rw [e1]; exact .ok R
    · refine (ht s0 s R).bind fun a b e => ?_
      subst e
      split
      · refine (he s0 s R).bind fun y0 y v => .guardR (v.cl hc) (ih.bind fun as bs v' => .ok (.cons v v'))
      · exact ih
theorem va_vl {c : Cl} {as bs : List D} (h : VA c as bs) : VL (as.map fun _ => c) as bs := by
  induction h with
  | nil => exact .nil
  | cons h _ ih => exact .cons h ih
theorem va_len {c : Cl} {as bs : List D} (h : VA c as bs) : bs.length = as.length := by
  induction h with
  | nil => rfl
  | cons h _ ih => simp [ih]
theorem all_const {α : Type} {as : List α} {p : Cl → Bool} {c : Cl} (h : p c = true) : (as.map fun _ => c).all p = true := by
  rw [List.all_eq_true]
  intro x hx
  obtain ⟨_, _, rfl⟩ := List.mem_map.mp hx
  exact h
theorem vc_lst {cs : List Cl} {as bs : List D} (h : VL cs as bs) (hc : cs.all Cl.cl = true) : Vc (Cl.own (cs.all fun c => !c.o)) (.lst .fz as) (.lst .own bs) := by
  obtain ⟨h1, h2⟩ := h.own hc
  exact ⟨by show D.lst .fz _ = _; rw [h.ers], h1, rfl, fun k x hx => h2 k x hx⟩
theorem vc_tup {cs : List Cl} {as bs : List D} (h : VL cs as bs) (hc : cs.all Cl.cl = true) : Vc (Cl.own (cs.all fun c => !c.o)) (.tup .fz as) (.tup .own bs) := by
  obtain ⟨h1, h2⟩ := h.own hc
  exact ⟨by show D.tup .fz _ = _; rw [h.ers], h1, rfl, fun k x hx => h2 k x hx⟩
theorem scal_fz {d : D} (h : scalarD d = true) : Vc Cl.F d d := by
  cases d <;> first | exact vc_fz rfl rfl | cases h
section
variable {A : AG} {Z G : GE}
mutual
theorem zE (H : GR A Z G) : ∀ (t : Tm) (Γ : List Cl) (c : Cl), aE A t Γ = some c → ∀ s0 s, SR Γ s0 s → RRp (Vc c) (evZ Z t s0) (evalE G t s)
  | .var i, Γ, c, h, s0, s, R => by
    unfold aE at h
    unfold evZ evalE
    split
    · next d0 e =>
      obtain ⟨c', d, e1, e2, v⟩ := R.get e
      rw [h] at e1; cases e1
      rw [e2]; exact .ok v
    · trivial
  | .cst d, Γ, c, h, s0, s, R => by
    unfold aE at h
    unfold evZ evalE
    split at h
    · next hs => cases h; exact .ok (scal_fz hs)
    · cases h
  | .glb g, Γ, c, h, s0, s, R => by
    unfold aE at h
    unfold evZ evalE
    split at h
    · next hs => cases h; obtain ⟨e, v⟩ := H.glob g hs; rw [e]; exact .ok v
    · cases h
  | .op o a b, Γ, c, h, s0, s, R => by
    unfold aE at h
    obtain ⟨x, hx, h⟩ := Option.bind_eq_some_iff.mp h
    obtain ⟨y, hy, h⟩ := Option.bind_eq_some_iff.mp h
    unfold evZ evalE
    exact (zE H a Γ x hx s0 s R).bind fun _ _ v => (zE H b Γ y hy s0 s R).bind fun _ _ w => rr_bop o v w h
  | .neg a, Γ, c, h, s0, s, R => by
    unfold aE at h
    obtain ⟨x, hx, h⟩ := Option.bind_eq_some_iff.mp h
    cases h
    unfold evZ evalE
    exact (zE H a Γ x hx s0 s R).bind fun _ _ v => rr_neg v
  | .cmp o a b, Γ, c, h, s0, s, R => by
    unfold aE at h
    obtain ⟨x, hx, h⟩ := Option.bind_eq_some_iff.mp h
    obtain ⟨y, hy, h⟩ := Option.bind_eq_some_iff.mp h
    cases h
    unfold evZ evalE
    exact (zE H a Γ x hx s0 s R).bind fun _ _ v => (zE H b Γ y hy s0 s R).bind fun _ _ w => (rr_cop o v w).bind fun _ _ e => by subst e; exact .ok vc_bl
  | .chn o o' a b d, Γ, c, h, s0, s, R => by
    unfold aE at h
    obtain ⟨x, hx, h⟩ := Option.bind_eq_some_iff.mp h
    obtain ⟨y, hy, h⟩ := Option.bind_eq_some_iff.mp h
    obtain ⟨z, hz, h⟩ := Option.bind_eq_some_iff.mp h
    cases h
    unfold evZ evalE
    exact (zE H a Γ x hx s0 s R).bind fun _ _ v => (zE H b Γ y hy s0 s R).bind fun _ _ w => (rr_cop o v w).bind fun q _ e => by
      subst e
      cases q with
      | true => exact (zE H d Γ z hz s0 s R).bind fun _ _ u => (rr_cop o' w u).bind fun _ _ e => by subst e; exact .ok vc_bl
      | false => exact .ok vc_bl
  | .and es, Γ, c, h, s0, s, R => by
    unfold aE at h
    obtain ⟨x, hx, h⟩ := Option.bind_eq_some_iff.mp h
    cases h
    unfold evZ evalE
    exact (zAnd H es Γ x hx s0 s R).bind fun _ _ e => by subst e; exact .ok vc_bl
  | .or es, Γ, c, h, s0, s, R => by
    unfold aE at h
    obtain ⟨x, hx, h⟩ := Option.bind_eq_some_iff.mp h
    cases h
    unfold evZ evalE
    exact (zOr H es Γ x hx s0 s R).bind fun _ _ e => by subst e; exact .ok vc_bl
  | .not a, Γ, c, h, s0, s, R => by
    unfold aE at h
    obtain ⟨x, hx, h⟩ := Option.bind_eq_some_iff.mp h
    cases h
    unfold evZ evalE
    exact (zE H a Γ x hx s0 s R).bind fun _ _ v => (rr_bl v).bind fun _ _ e => by subst e; exact .ok vc_bl
  | .ife q a b, Γ, c, h, s0, s, R => by
    unfold aE at h
    obtain ⟨z, hz, h⟩ := Option.bind_eq_some_iff.mp h
    obtain ⟨x, hx, h⟩ := Option.bind_eq_some_iff.mp h
    obtain ⟨y, hy, h⟩ := Option.bind_eq_some_iff.mp h
    split at h
    · next hl =>
      rw [Bool.and_eq_true] at hl
      cases h
      unfold evZ evalE
      exact (zE H q Γ z hz s0 s R).bind fun _ _ v => (rr_tru v).bind fun r _ e => by
        subst e
        cases r with
        | true => exact (zE H a Γ x hx s0 s R).mono fun _ _ v => v.le hl.1
        | false => exact (zE H b Γ y hy s0 s R).mono fun _ _ v => v.le hl.2
    · cases h
  | .fld a f, Γ, c, h, s0, s, R => by
    unfold aE at h
    obtain ⟨x, hx, h⟩ := Option.bind_eq_some_iff.mp h
    cases h
    unfold evZ evalE
    rw [H.fok]
    exact (zE H a Γ x hx s0 s R).bind fun _ _ v => rr_fld v
  | .ix a b, Γ, c, h, s0, s, R => by
    unfold aE at h
    obtain ⟨x, hx, h⟩ := Option.bind_eq_some_iff.mp h
    obtain ⟨y, hy, h⟩ := Option.bind_eq_some_iff.mp h
    split at h
    · next hl =>
      cases h
      unfold evZ evalE
      exact (zE H a Γ x hx s0 s R).bind fun _ _ v => (zE H b Γ y hy s0 s R).bind fun _ _ w => rr_ix v w hl
    · cases h
  | .slc a lo hi, Γ, c, h, s0, s, R => by
    unfold aE at h
    obtain ⟨x, hx, h⟩ := Option.bind_eq_some_iff.mp h
    obtain ⟨y, hy, h⟩ := Option.bind_eq_some_iff.mp h
    obtain ⟨z, hz, h⟩ := Option.bind_eq_some_iff.mp h
    split at h
    · next hl =>
      cases h
      unfold evZ evalE
      exact (zE H a Γ x hx s0 s R).bind fun _ _ v => (zO H lo Γ y hy s0 s R).bind fun _ _ e1 => (zO H hi Γ z hz s0 s R).bind fun _ _ e2 => by
        subst e1 e2
        exact rr_slc v hl
    · cases h
  | .lst es, Γ, c, h, s0, s, R => by
    unfold aE at h
    obtain ⟨cs, hx, h⟩ := Option.bind_eq_some_iff.mp h
    split at h
    · next hl =>
      cases h
      unfold evZ evalE
      refine (zL H es Γ cs hx s0 s R).bind fun as bs v => .guard (fun hs => ?_) (.ok (vc_lst v hl))
      rw [v.cls hl, v.len]; exact hs
    · cases h
  | .tup es, Γ, c, h, s0, s, R => by
    unfold aE at h
    obtain ⟨cs, hx, h⟩ := Option.bind_eq_some_iff.mp h
    split at h
    · next hl =>
      cases h
      unfold evZ evalE
      refine (zL H es Γ cs hx s0 s R).bind fun as bs v => .guard (fun hs => ?_) (.ok (vc_tup v hl))
      rw [v.cls hl, v.len]; exact hs
    · cases h
  | .dct ks vs, Γ, c, h, s0, s, R => by
    unfold aE at h
    split at h
    · cases h
      unfold evZ evalE evZL evalL
      exact .ok ⟨rfl, rfl, rfl, fun _ x hx => nomatch hx⟩
    · cases h
  | .cal f es, Γ, c, h, s0, s, R => by
    unfold aE at h
    obtain ⟨cs, hx, h⟩ := Option.bind_eq_some_iff.mp h
    obtain ⟨p, hp, h⟩ := Option.bind_eq_some_iff.mp h
    split at h
    · next hl =>
      cases h
      unfold evZ evalE
      exact (zL H es Γ cs hx s0 s R).bind fun as bs v => (H.call f p.1 p.2 hp as _ (v.args hl)).val
    · cases h
  | .mak k es, Γ, c, h, s0, s, R => by
    unfold aE at h
    obtain ⟨cs, hx, h⟩ := Option.bind_eq_some_iff.mp h
    obtain ⟨f, hf, h⟩ := Option.bind_eq_some_iff.mp h
    obtain ⟨p, hp, h⟩ := Option.bind_eq_some_iff.mp h
    split at h
    · next q ps e =>
      split at h
      · next hl =>
        simp only [Bool.and_eq_true] at hl
        cases h
        unfold evZ evalE
        refine (zL H es Γ cs hx s0 s R).bind fun as bs v => ?_
        rw [H.ainit] at hf
        rw [H.init, hf]
        have hs : Vc q (.ins .fz k [] []) (.ins .own k [] []) := Vc.le ⟨rfl, rfl, rfl, fun _ x hx => nomatch hx⟩ hl.1.1
        have := (H.make f p.1 p.2 hp (.ins .fz k [] [] :: as) (.ins .own k [] [] :: bs.map D.arg) (by rw [e]; exact .cons hs (v.args hl.1.2))).made rfl hl.2 (G.frz k)
        rw [H.frz]
        exact this
      · cases h
    · cases h
  | .met a m es, Γ, c, h, s0, s, R => by
    unfold aE at h
    obtain ⟨x, hx, h⟩ := Option.bind_eq_some_iff.mp h
    obtain ⟨cs, hc, h⟩ := Option.bind_eq_some_iff.mp h
    obtain ⟨p, hp, h⟩ := Option.bind_eq_some_iff.mp h
    split at h
    · next hl =>
      cases h
      unfold evZ evalE
      refine (zE H a Γ x hx s0 s R).bind fun d0 d v => ?_
      have e := v.e
      subst e
      cases d with
      | ins md k fs ds =>
        show RRp _ (match Z.meth k m with
          | some f => Res.guard (!(fs.any fun g => decide (g = m))) <| (evZL Z es s0).bind fun ds' => (Z.call f (.ins .fz k fs (D.ers ds) :: ds')).val
          | none => .stuck) (match G.meth k m with
          | some f => Res.guard (!(fs.any fun g => decide (g = m))) <| (evalL G es s).bind fun ds' => (G.call f ((.ins md k fs ds :: ds').map D.arg)).val
          | none => .stuck)
        rw [H.meth]
        cases hm : G.meth k m with
        | none => trivial
        | some f =>
          refine .guard id ((zL H es Γ cs hc s0 s R).bind fun as bs w => ?_)
          have hsg := H.ms m p hp k f hm
          exact (H.call f p.1 p.2 hsg _ _ ((VL.cons v w).args hl)).val
      | _ => trivial
    · cases h
  | .blt b es, Γ, c, h, s0, s, R => by
    unfold aE at h
    obtain ⟨cs, hx, h⟩ := Option.bind_eq_some_iff.mp h
    unfold evZ evalE
    exact (zL H es Γ cs hx s0 s R).bind fun as bs v => rr_blt b v h
  | .bmt b a es, Γ, c, h, s0, s, R => by
    unfold aE at h
    obtain ⟨x, hx, h⟩ := Option.bind_eq_some_iff.mp h
    obtain ⟨cs, hc, h⟩ := Option.bind_eq_some_iff.mp h
    split at h
    · next k y =>
      dsimp only at h
      split at h
      · next hl =>
        rw [Bool.and_eq_true] at hl
        cases h
        unfold evZ evalE
        refine (zE H a Γ x hx s0 s R).bind fun d0 d v => ?_
        have hg : bmtR .get2 d = bmtR .get2 d0 := by rw [← v.e]; cases d <;> rfl
        rw [hg]
        cases hb : bmtR .get2 d0 with
        | false => trivial
        | true =>
          refine (zL H es Γ _ hc s0 s R).bind fun as bs w => ?_
          cases w with
          | cons w1 w =>
            cases w with
            | cons w2 w =>
              cases w with
              | nil =>
                have := rr_get2 v w1 w2 hl.1 hl.2
                rw [hg, hb] at this
                exact this
      · cases h
    · split at h
      · next hk =>
        cases h
        unfold evZ evalE
        refine (zE H a Γ x hx s0 s R).bind fun d0 d v => ?_
        refine .guard (fun hg => by rw [← v.e] at hg; cases d <;> first | rfl | cases hg) ?_
        refine (zL H es Γ _ hc s0 s R).bind fun as bs w => ?_
        cases w with
        | nil =>
          have e := v.e
          subst e
          cases d with
          | dic m ks ds =>
            have k1 : ∀ d ∈ ds, d.wm = true ∧ d.cl = true := fun z hz => ⟨(wm_kid v.w (d := .dic m ks ds) hz).2, v.kcl hk hz⟩
            exact .guardR (List.all_eq_true.mpr fun z hz => (k1 z hz).2) (.ok (vc_new k1))
          | _ => trivial
      · cases h
    · cases h
  | .isi a k, Γ, c, h, s0, s, R => by
    unfold aE at h
    obtain ⟨x, hx, h⟩ := Option.bind_eq_some_iff.mp h
    cases h
    unfold evZ evalE
    rw [H.sub]
    exact (zE H a Γ x hx s0 s R).bind fun _ _ v => (rr_isi _ k v).bind fun _ _ e => by subst e; exact .ok vc_bl
  | .cmpr elt tg it ifs, Γ, c, h, s0, s, R => by
    unfold aE at h
    obtain ⟨av, ha, h⟩ := Option.bind_eq_some_iff.mp h
    obtain ⟨Γ', hb, h⟩ := Option.bind_eq_some_iff.mp h
    obtain ⟨ci, hi, h⟩ := Option.bind_eq_some_iff.mp h
    obtain ⟨q, hq, h⟩ := Option.bind_eq_some_iff.mp h
    split at h
    · next hl =>
      cases h
      unfold evZ evalE
      obtain ⟨hno, hI⟩ := zI H it false Γ av ha
      refine (hI s0 s R).bind fun ds0 ds hA => ?_
      refine (rr_comp (Γ := Γ') (av := av) (c := q) (fun d0 d hd s0' hb0 => ?_) (fun s0' s' R' => (zIf H ifs Γ' ci hi s0' s' R').noEx) (fun s0' s' R' => (zE H elt Γ' q hq s0' s' R').noEx) hl hA).bind fun ys0 ys hy => ?_
      · exact btC tg av _ Γ' hb (.inl hno) _ _ s0' d0 d (R.wipe (tgNames tg)) hd hb0
      · rw [va_len hy]
        refine .guard id (.ok ?_)
        have := vc_lst (va_vl hy) (all_const (p := Cl.cl) hl)
        refine this.le ?_
        cases ys0 with
        | nil => simp [Cl.own, Cl.le, Cl.kk]
        | cons y ys0 =>
          simp [Cl.own, Cl.le, Cl.kk, List.all_eq_true]
          cases q.o <;> simp
    · cases h
theorem zL (H : GR A Z G) : ∀ (ts : List Tm) (Γ : List Cl) (cs : List Cl), aL A ts Γ = some cs → ∀ s0 s, SR Γ s0 s → RRp (VL cs) (evZL Z ts s0) (evalL G ts s)
  | [], Γ, cs, h, s0, s, R => by
    unfold aL at h
    cases h
    unfold evZL evalL
    exact .ok .nil
  | t :: ts, Γ, cs, h, s0, s, R => by
    unfold aL at h
    obtain ⟨x, hx, h⟩ := Option.bind_eq_some_iff.mp h
    obtain ⟨y, hy, h⟩ := Option.bind_eq_some_iff.mp h
    cases h
    unfold evZL evalL
    exact (zE H t Γ x hx s0 s R).bind fun _ _ v => (zL H ts Γ y hy s0 s R).bind fun _ _ w => .ok (.cons v w)
theorem zO (H : GR A Z G) : ∀ (t : Option Tm) (Γ : List Cl) (c : Cl), aO A t Γ = some c → ∀ s0 s, SR Γ s0 s → RRp (fun a b => a = b) (evZO Z t s0) (evalO G t s)
  | none, Γ, c, h, s0, s, R => by
    unfold evZO evalO
    exact .ok rfl
  | some t, Γ, c, h, s0, s, R => by
    unfold aO at h
    unfold evZO evalO
    exact (zE H t Γ c h s0 s R).bind fun _ _ v => (rr_int v).bind fun _ _ e => by subst e; exact .ok rfl
theorem zAnd (H : GR A Z G) : ∀ (ts : List Tm) (Γ : List Cl) (cs : List Cl), aL A ts Γ = some cs → ∀ s0 s, SR Γ s0 s → RRp (fun a b => a = b) (evZAnd Z ts s0) (evalAnd G ts s)
  | [], Γ, cs, h, s0, s, R => by
    unfold evZAnd evalAnd
    exact .ok rfl
  | t :: ts, Γ, cs, h, s0, s, R => by
    unfold aL at h
    obtain ⟨x, hx, h⟩ := Option.bind_eq_some_iff.mp h
    obtain ⟨y, hy, h⟩ := Option.bind_eq_some_iff.mp h
    unfold evZAnd evalAnd
    exact (zE H t Γ x hx s0 s R).bind fun _ _ v => (rr_bl v).bind fun q _ e => by
      subst e
      cases q with
      | true => exact zAnd H ts Γ y hy s0 s R
      | false => exact .ok rfl
theorem zOr (H : GR A Z G) : ∀ (ts : List Tm) (Γ : List Cl) (cs : List Cl), aL A ts Γ = some cs → ∀ s0 s, SR Γ s0 s → RRp (fun a b => a = b) (evZOr Z ts s0) (evalOr G ts s)
  | [], Γ, cs, h, s0, s, R => by
    unfold evZOr evalOr
    exact .ok rfl
  | t :: ts, Γ, cs, h, s0, s, R => by
    unfold aL at h
    obtain ⟨x, hx, h⟩ := Option.bind_eq_some_iff.mp h
    obtain ⟨y, hy, h⟩ := Option.bind_eq_some_iff.mp h
    unfold evZOr evalOr
    exact (zE H t Γ x hx s0 s R).bind fun _ _ v => (rr_bl v).bind fun q _ e => by
      subst e
      cases q with
      | true => exact .ok rfl
      | false => exact zOr H ts Γ y hy s0 s R
theorem zIf (H : GR A Z G) : ∀ (ts : List Tm) (Γ : List Cl) (cs : List Cl), aL A ts Γ = some cs → ∀ s0 s, SR Γ s0 s → RRp (fun a b => a = b) (evZIf Z ts s0) (evalIf G ts s)
  | [], Γ, cs, h, s0, s, R => by
    unfold evZIf evalIf
    exact .ok rfl
  | t :: ts, Γ, cs, h, s0, s, R => by
    unfold aL at h
    obtain ⟨x, hx, h⟩ := Option.bind_eq_some_iff.mp h
    obtain ⟨y, hy, h⟩ := Option.bind_eq_some_iff.mp h
    unfold evZIf evalIf
    exact (zE H t Γ x hx s0 s R).bind fun _ _ v => (rr_tru v).bind fun q _ e => by
      subst e
      cases q with
      | true => exact zIf H ts Γ y hy s0 s R
      | false => exact .ok rfl
theorem zI (H : GR A Z G) : ∀ (it : Itr) (st : Bool) (Γ : List Cl) (av : AV), aI A st it Γ = some av → av.noOwn = true ∧ ∀ s0 s, SR Γ s0 s → RRp (AL av) (evZI Z it s0) (evalI G st it s)
  | .rng1 a, st, Γ, av, h => by
    unfold aI at h
    obtain ⟨x, hx, h⟩ := Option.bind_eq_some_iff.mp h
    cases h
    refine ⟨rfl, fun s0 s R => ?_⟩
    unfold evZI evalI
    exact (zE H a Γ x hx s0 s R).bind fun _ _ v => (rr_int v).bind fun _ _ e => by subst e; exact .guard id (.ok (al_ints _ _))
  | .rng2 a b, st, Γ, av, h => by
    unfold aI at h
    obtain ⟨x, hx, h⟩ := Option.bind_eq_some_iff.mp h
    obtain ⟨y, hy, h⟩ := Option.bind_eq_some_iff.mp h
    cases h
    refine ⟨rfl, fun s0 s R => ?_⟩
    unfold evZI evalI
    exact (zE H a Γ x hx s0 s R).bind fun _ _ v => (rr_int v).bind fun _ _ e => (zE H b Γ y hy s0 s R).bind fun _ _ w => (rr_int w).bind fun _ _ e' => by subst e e'; exact .guard id (.ok (al_ints _ _))
  | .seq a, st, Γ, av, h => by
    unfold aI at h
    obtain ⟨x, hx, h⟩ := Option.bind_eq_some_iff.mp h
    split at h
    · next hl =>
      cases h
      refine ⟨rfl, fun s0 s R => ?_⟩
      unfold evZI evalI
      exact (zE H a Γ x hx s0 s R).bind fun _ _ v => .guardR (walk_of v hl) (rr_seq v)
    · cases h
  | .enm a, st, Γ, av, h => by
    unfold aI at h
    obtain ⟨x, hx, h⟩ := Option.bind_eq_some_iff.mp h
    split at h
    · next hl =>
      cases h
      refine ⟨rfl, fun s0 s R => ?_⟩
      unfold evZI evalI
      exact (zE H a Γ x hx s0 s R).bind fun _ _ v => .guardR (walk_of v hl) ((rr_lst v).bind fun _ _ q => .ok (al_enums q 0))
    · cases h
  | .zip a b, st, Γ, av, h => by
    unfold aI at h
    obtain ⟨x, hx, h⟩ := Option.bind_eq_some_iff.mp h
    obtain ⟨y, hy, h⟩ := Option.bind_eq_some_iff.mp h
    split at h
    · next hl =>
      cases h
      refine ⟨rfl, fun s0 s R => ?_⟩
      unfold evZI evalI
      have h1 : (!st || !x.v) = true := by cases st <;> simp at hl ⊢; exact hl.1
      have h2 : (!st || !y.v) = true := by cases st <;> simp at hl ⊢; exact hl.2
      exact (zE H a Γ x hx s0 s R).bind fun _ _ v => (zE H b Γ y hy s0 s R).bind fun _ _ w => .guardR (by rw [walk_of v h1, walk_of w h2]; rfl) ((rr_lst v).bind fun _ _ q => (rr_lst w).bind fun _ _ q' => .ok (al_pairs q q'))
    · cases h
  | .keys a, st, Γ, av, h => by
    unfold aI at h
    obtain ⟨x, hx, h⟩ := Option.bind_eq_some_iff.mp h
    split at h
    · next hl =>
      cases h
      refine ⟨rfl, fun s0 s R => ?_⟩
      unfold evZI evalI
      exact (zE H a Γ x hx s0 s R).bind fun _ _ v => .guardR (walk_of v hl) ((rr_dic v).bind fun p p' q => .ok (by rw [q.1]; exact al_keys _))
    · cases h
  | .items a, st, Γ, av, h => by
    unfold aI at h
    obtain ⟨x, hx, h⟩ := Option.bind_eq_some_iff.mp h
    split at h
    · next hl =>
      cases h
      refine ⟨rfl, fun s0 s R => ?_⟩
      unfold evZI evalI
      exact (zE H a Γ x hx s0 s R).bind fun _ _ v => .guardR (walk_of v hl) ((rr_dic v).bind fun p p' q => .ok (by rw [q.1]; exact al_pairs (al_keys _) q.2))
    · cases h
  | .vals a, st, Γ, av, h => by
    unfold aI at h
    obtain ⟨x, hx, h⟩ := Option.bind_eq_some_iff.mp h
    split at h
    · next hl =>
      cases h
      refine ⟨rfl, fun s0 s R => ?_⟩
      unfold evZI evalI
      exact (zE H a Γ x hx s0 s R).bind fun _ _ v => .guardR (walk_of v hl) ((rr_dic v).bind fun p p' q => .ok q.2)
    · cases h
  | .rev a, st, Γ, av, h => by
    unfold aI at h
    obtain ⟨x, hx, h⟩ := Option.bind_eq_some_iff.mp h
    split at h
    · next hl =>
      cases h
      refine ⟨rfl, fun s0 s R => ?_⟩
      unfold evZI evalI
      exact (zE H a Γ x hx s0 s R).bind fun _ _ v => .guardR (walk_of v hl) ((rr_lst v).bind fun _ _ q => .ok (all2_rev q))
    · cases h
  | .sgn a, st, Γ, av, h => by
    unfold aI at h
    obtain ⟨x, hx, h⟩ := Option.bind_eq_some_iff.mp h
    cases h
    refine ⟨rfl, fun s0 s R => ?_⟩
    unfold evZI evalI
    refine (zE H a Γ x hx s0 s R).bind fun d0 d v => ?_
    have e := v.e
    subst e
    cases d with
    | str z => exact .ok (al_strs _ _)
    | _ => trivial
end
end
end GS

namespace GS
open PySem PySem.Spec PyProof.Rows L2

/-! ## the look ahead: statements -/
structure AO where
  nx : Option (List Cl)
  lp : List (List Cl)
  rt : Cl
def leG : List Cl → List Cl → Bool
  | [], [] => true
  | c :: cs, d :: ds => c.le d && leG cs ds
  | _, _ => false
def joinG : List Cl → List Cl → List Cl
  | c :: cs, d :: ds => c.join d :: joinG cs ds
  | _, _ => []
def joinR (a b : Cl) : Option Cl := if (a.le (a.join b) && b.le (a.join b)) = true then some (a.join b) else none
def joinN : Option (List Cl) → Option (List Cl) → Option (Option (List Cl))
  | none, y => some y
  | some x, none => some (some x)
  | some x, some y => if (leG x (joinG x y) && leG y (joinG x y)) = true then some (some (joinG x y)) else none
def joinA (a b : AO) : Option AO := (joinN a.nx b.nx).bind fun n => (joinR a.rt b.rt).bind fun r => some ⟨n, a.lp ++ b.lp, r⟩
def AO.pts (r : AO) : List (List Cl) := match r.nx with
  | some x => x :: r.lp
  | none => r.lp
def aLoop (Γ : List Cl) (step : List Cl → Option AO) : Nat → List Cl → Option (List Cl × AO)
  | 0, _ => none
  | n + 1, J => (step J).bind fun r => if (r.pts.all fun x => leG x J) = true then (if leG Γ J = true then some (J, r) else none) else aLoop Γ step n (r.pts.foldl joinG J)
def keptC (o : Bool) (c : Cl) : Cl := if o = true then c else c.frz
def one (Γ : List Cl) : Option AO := some ⟨some Γ, [], Cl.bot⟩
def vwG (Γ : List Cl) : List Cl := Γ.map Cl.view
/-- a name that goes -/
def AO.kil (o : Option Nat) (r : AO) : AO := match o with
  | some i => ⟨r.nx.map fun Γ => Γ.set i Cl.bot, r.lp.map fun Γ => Γ.set i Cl.bot, r.rt⟩
  | none => r
variable (A : AG) (np : Nat)
mutual
def aS : Cm → List Cl → Option AO
  | .set i t, Γ => (aE A t (vwG Γ)).bind fun c => if okS np i Γ c = true then one (Γ.set i c) else none
  | .unp g t, Γ => (aE A t (vwG Γ)).bind fun c => (aB (okS np) g (.leaf c) Γ).bind one
  | .par _ _ _ _, _ => none
  | .aug _ _ _, _ => none
  | .put o i ss ix t, Γ => (aE A t (vwG Γ)).bind fun cy => (aE A ix (vwG Γ)).bind fun _ => (Γ[i]?).bind fun c => if (ss.isEmpty && c.sure && cy.cl) = true then one (Γ.set i (Cl.own (c.kk && !(keptC o cy).o))) else none
  | .fput o i ss f t, Γ => (aE A t (vwG Γ)).bind fun cy => (Γ[i]?).bind fun c => if (ss.isEmpty && c.sure && cy.cl) = true then one (Γ.set i (Cl.own (c.kk && !(keptC o cy).o))) else none
  | .app o i ss t, Γ => (aE A t (vwG Γ)).bind fun cy => (Γ[i]?).bind fun c => if (ss.isEmpty && c.sure && cy.cl) = true then one (Γ.set i (Cl.own (c.kk && !(keptC o cy).o))) else none
  | .ext i ss t, Γ => (aE A t (vwG Γ)).bind fun cy => (Γ[i]?).bind fun c => if (ss.isEmpty && c.sure && cy.kc && cy.cl) = true then one (Γ.set i (Cl.own c.kk)) else none
  | .clr i ss, Γ => (Γ[i]?).bind fun c => if (ss.isEmpty && c.sure) = true then one (Γ.set i (Cl.own true)) else none
  | .ex t, Γ => (aE A t (vwG Γ)).bind fun _ => one Γ
  | .ini k es, Γ => (aL A es (vwG (Γ.set 0 Cl.bot))).bind fun cs => (Γ[0]?).bind fun c => (A.init k).bind fun f => (A.sg f).bind fun p => match p.1 with
    | q :: ps => if (c.sure && c.le q && aArgs cs ps && (A.fs f).sure) = true then one (Γ.set 0 (A.fs f)) else none
    | [] => none
  | .ret t, Γ => (aE A t (vwG Γ)).bind fun c => if c.cl = true then some ⟨none, [], c⟩ else none
  | .retv i, Γ => (Γ[i]?).bind fun c => if (c.cl && decide (np ≤ i)) = true then some ⟨none, [], c⟩ else none
  | .ret0, _ => some ⟨none, [], Cl.F⟩
  | .ite c a b, Γ => (aE A c (vwG Γ)).bind fun _ => (aSs a Γ).bind fun x => (aSs b Γ).bind fun y => joinA x y
  | .whl c b, Γ => (aLoop Γ (fun J => (aE A c (vwG J)).bind fun _ => aSs b J) 6 Γ).bind fun p => some ⟨some p.1, [], p.2.rt⟩
  | .for_ g it b, Γ => (aI A true it (vwG Γ)).bind fun av => (aLoop Γ (fun J => (aB (okS np) g av J).bind fun J' => aSs b J') 6 Γ).bind fun p => some ⟨some p.1, [], p.2.rt⟩
  | .brk, Γ => some ⟨none, [Γ], Cl.bot⟩
  | .cnt, Γ => some ⟨none, [Γ], Cl.bot⟩
  | .pas, Γ => one Γ
  | .rai _ es, Γ => (aL A es (vwG Γ)).bind fun cs => if cs.all Cl.cl = true then some ⟨none, [], Cl.bot⟩ else none
  | .frz i, Γ => (Γ[i]?).bind fun c => if (decide (np ≤ i) || !c.o) = true then one (Γ.set i c.frz) else none
  | .frzc i, Γ => (Γ[i]?).bind fun c => if c.sure = true then one (Γ.set i (Cl.own true)) else none
  | .kil i, Γ => if np ≤ i then one (Γ.set i Cl.bot) else none
  | .never, _ => some ⟨none, [], Cl.bot⟩
  | .try_ b hs, Γ => (aSs b Γ).bind fun x => (aH hs Γ).bind fun y => joinA x y
def aH : Hd → List Cl → Option AO
  | .nil, _ => some ⟨none, [], Cl.bot⟩
  | .cons _ o su hs, Γ => (match o with
    | some i => if np ≤ i then aSs su (Γ.set i Cl.F) else none
    | none => aSs su Γ).bind fun x => (aH hs Γ).bind fun y => joinA (AO.kil o x) y
def aSs : List Cm → List Cl → Option AO
  | [], Γ => one Γ
  | c :: cs, Γ => (aS c Γ).bind fun r => match r.nx with
    | none => some r
    | some Γ' => (aSs cs Γ').bind fun q => (joinR r.rt q.rt).bind fun t => some ⟨q.nx, r.lp ++ q.lp, t⟩
end

/-! ## statements keep it -/
def ORl (r : AO) (o0 o : Out) : Prop := match o0 with
  | .stuck => True
  | .nx s0 => ∃ s Γ, o = .nx s ∧ r.nx = some Γ ∧ SR Γ s0 s
  | .bk s0 => ∃ s Γ, o = .bk s ∧ Γ ∈ r.lp ∧ SR Γ s0 s
  | .ct s0 => ∃ s Γ, o = .ct s ∧ Γ ∈ r.lp ∧ SR Γ s0 s
  | .rt d0 _ => ∃ d s, o = .rt d s ∧ Vc r.rt d0 d ∧ d.cl = true
  | .ex e ds _ => ∃ s, o = .ex e ds s ∧ ∀ d ∈ ds, Vc Cl.F d d
theorem le_refl (c : Cl) : c.le c = true := by
  rcases c with ⟨_ | _, _ | _, _ | _, _ | _, _ | _⟩ <;> rfl
theorem leG_refl : ∀ Γ : List Cl, leG Γ Γ = true
  | [] => rfl
  | c :: Γ => by unfold leG; rw [le_refl, leG_refl Γ]; rfl
theorem SR.le : ∀ {Γ Δ : List Cl} {s0 s : Sl}, SR Γ s0 s → leG Γ Δ = true → SR Δ s0 s
  | [], [], _, _, h, _ => h
  | [], _ :: _, _, _, _, l => by cases l
  | _ :: _, [], _, _, _, l => by cases l
  | c :: Γ, d :: Δ, _, _, h, l => by
    unfold leG at l
    rw [Bool.and_eq_true] at l
    cases h with
    | non h => exact .non (SR.le h l.2)
    | som v h => exact .som (v.le l.1) (SR.le h l.2)
theorem joinR_le {a b c : Cl} (h : joinR a b = some c) : a.le c = true ∧ b.le c = true := by
  unfold joinR at h
  split at h
  · next hl => cases h; rw [Bool.and_eq_true] at hl; exact hl
  · cases h
theorem vc_bot {d0 d : D} (v : Vc Cl.bot d0 d) : False := by
  have := v.h.1
  cases e : d.md <;> rw [e] at this <;> cases this
section
variable {r r' : AO} {o0 o : Out}
theorem ORl.mono (h : ORl r o0 o) (h1 : ∀ Γ, r.nx = some Γ → ∃ Δ, r'.nx = some Δ ∧ leG Γ Δ = true) (h2 : ∀ Γ ∈ r.lp, Γ ∈ r'.lp) (h3 : r.rt.le r'.rt = true) : ORl r' o0 o := by
  cases o0 with
  | stuck => trivial
  | nx s0 =>
    obtain ⟨s, Γ, e, e2, R⟩ := h
    obtain ⟨Δ, e3, l⟩ := h1 Γ e2
    exact ⟨s, Δ, e, e3, R.le l⟩
  | bk s0 => obtain ⟨s, Γ, e, e2, R⟩ := h; exact ⟨s, Γ, e, h2 Γ e2, R⟩
  | ct s0 => obtain ⟨s, Γ, e, e2, R⟩ := h; exact ⟨s, Γ, e, h2 Γ e2, R⟩
  | rt d0 s0 => obtain ⟨d, s, e, v, hc⟩ := h; exact ⟨d, s, e, v.le h3, hc⟩
  | ex e ds s0 => exact h
theorem join_or {a b r : AO} (h : joinA a b = some r) : (∀ o0 o, ORl a o0 o → ORl r o0 o) ∧ ∀ o0 o, ORl b o0 o → ORl r o0 o := by
  unfold joinA at h
  obtain ⟨n, hn, h⟩ := Option.bind_eq_some_iff.mp h
  obtain ⟨t, ht, h⟩ := Option.bind_eq_some_iff.mp h
  cases h
  obtain ⟨l1, l2⟩ := joinR_le ht
  have key : ∀ (x : AO) (o0 o : Out), ORl x o0 o → x.rt.le t = true → (∀ Γ ∈ x.lp, Γ ∈ a.lp ++ b.lp) → (∀ Γ s0 s, x.nx = some Γ → SR Γ s0 s → ∃ Δ, n = some Δ ∧ SR Δ s0 s) → ORl ⟨n, a.lp ++ b.lp, t⟩ o0 o := fun x o0 o h hl hp hx => by
    cases o0 with
    | stuck => trivial
    | nx s0 =>
      obtain ⟨s, Γ, e, e2, R⟩ := h
      obtain ⟨Δ, e3, R'⟩ := hx Γ s0 s e2 R
      exact ⟨s, Δ, e, e3, R'⟩
    | bk s0 => obtain ⟨s, Γ, e, e2, R⟩ := h; exact ⟨s, Γ, e, hp Γ e2, R⟩
    | ct s0 => obtain ⟨s, Γ, e, e2, R⟩ := h; exact ⟨s, Γ, e, hp Γ e2, R⟩
    | rt d0 s0 => obtain ⟨d, s, e, v, hc⟩ := h; exact ⟨d, s, e, v.le hl, hc⟩
    | ex e ds s0 => exact h
  have hN : (∀ Γ s0 s, a.nx = some Γ → SR Γ s0 s → ∃ Δ, n = some Δ ∧ SR Δ s0 s) ∧ ∀ Γ s0 s, b.nx = some Γ → SR Γ s0 s → ∃ Δ, n = some Δ ∧ SR Δ s0 s := by
    cases ea : a.nx with
    | none =>
      rw [ea] at hn
      cases eb : b.nx with
      | none => exact ⟨fun _ _ _ z => (by cases z), fun _ _ _ z => (by cases z)⟩
      | some y => rw [eb] at hn; cases hn; exact ⟨fun _ _ _ z => (by cases z), fun Γ s0 s z R => by cases z; exact ⟨_, rfl, R⟩⟩
    | some x =>
      rw [ea] at hn
      cases eb : b.nx with
      | none => rw [eb] at hn; cases hn; exact ⟨fun Γ s0 s z R => by cases z; exact ⟨_, rfl, R⟩, fun _ _ _ z => (by cases z)⟩
      | some y =>
        rw [eb] at hn
        replace hn : (if (leG x (joinG x y) && leG y (joinG x y)) = true then some (some (joinG x y)) else none) = some n := hn
        split at hn
        · next hl =>
          rw [Bool.and_eq_true] at hl
          cases hn
          exact ⟨fun Γ s0 s z R => by cases z; exact ⟨_, rfl, R.le hl.1⟩, fun Γ s0 s z R => by cases z; exact ⟨_, rfl, R.le hl.2⟩⟩
        · cases hn
  exact ⟨fun o0 o h => key a o0 o h l1 (fun Γ hg => List.mem_append_left _ hg) hN.1, fun o0 o h => key b o0 o h l2 (fun Γ hg => List.mem_append_right _ hg) hN.2⟩
theorem or_res {α β : Type} {P : α → β → Prop} {r0 : Res α} {rr : Res β} {s0 s : Sl} {f0 : α → Out} {f : β → Out} (h : RRp P r0 rr) (hf : ∀ a b, P a b → ORl r (f0 a) (f b)) : ORl r (Out.ofRes s0 r0 f0) (Out.ofRes s rr f) := by
  cases r0 with
  | ok a => obtain ⟨b, e, p⟩ := h; rw [e]; exact hf a b p
  | ex c ds => obtain ⟨e, p⟩ := h; rw [e]; exact ⟨s, rfl, p⟩
  | stuck => trivial
end
/-! containers that are stored to -/
structure KO (k : Bool) (ds0 ds : List D) : Prop where
  e : D.ers ds = ds0
  w : D.wms .own ds = true
  k : k = true → ∀ x ∈ ds, x.md = .fz
theorem KO.add {k : Bool} {ds0 ds : List D} {c : Cl} {y0 y : D} (h : KO k ds0 ds) (v : Vc c y0 y) (hc : c.cl = true) : (chOk .own y.md = true ∧ y.wm = true) ∧ ((k && !c.o) = true → y.md = .fz) := by
  have h1 := v.h.1
  have hcl := v.cl hc
  unfold D.cl at hcl
  refine ⟨⟨?_, v.w⟩, fun hk => ?_⟩
  · cases e : y.md <;> rw [e] at hcl <;> first | rfl | cases hcl
  · rw [Bool.and_eq_true] at hk
    cases e : y.md <;> rw [e] at hcl h1 <;> first | rfl | (cases hcl; done) | (simp only [Cl.ok] at h1; rw [h1] at hk; simp at hk)
theorem KO.of {k k' : Bool} {ds0 ds ds0' ds' : List D} (h : KO k ds0 ds) {y : D} (hy : (chOk .own y.md = true ∧ y.wm = true) ∧ (k' = true → y.md = .fz)) (hk : k' = true → k = true) (hs : ∀ x ∈ ds', x = y ∨ x ∈ ds) (he : D.ers ds' = ds0') : KO k' ds0' ds' :=
  ⟨he, wms_iff.mpr fun x hx => by
    rcases hs x hx with e | hx
    · rw [e]; exact hy.1
    · exact wms_iff.mp h.w x hx, fun z x hx => by
    rcases hs x hx with e | hx
    · rw [e]; exact hy.2 z
    · exact h.k (hk z) x hx⟩
theorem kept_vc {o : Bool} {c : Cl} {y0 y : D} (v : Vc c y0 y) (hc : c.cl = true) : Vc (keptC o c) y0 (kept o y) ∧ (keptC o c).cl = true := by
  cases o with
  | true => exact ⟨v, hc⟩
  | false => exact ⟨v.frz, by rcases c with ⟨_ | _, _ | _, _ | _, _ | _, _ | _⟩ <;> first | rfl | cases hc⟩
theorem setKey_er (q : Key) (y : D) : ∀ (ks : List Key) (ds : List D), D.ers (setKey q y ks ds) = setKey q y.er ks (D.ers ds) ∧ ∀ x ∈ setKey q y ks ds, x = y ∨ x ∈ ds
  | [], ds => ⟨by cases ds <;> rfl, fun x hx => by cases ds <;> exact .inr hx⟩
  | k :: ks, [] => ⟨rfl, fun x hx => nomatch hx⟩
  | k :: ks, d :: ds => by
    obtain ⟨i1, i2⟩ := setKey_er q y ks ds
    unfold setKey
    split
    · exact ⟨by show _ = (if k = q then y.er :: D.ers ds else _); rw [if_pos (by assumption)]; rfl, fun x hx => by
        rcases List.mem_cons.mp hx with e | hx
        · exact .inl e
        · exact .inr (List.mem_cons_of_mem _ hx)⟩
    · next hn => exact ⟨by show d.er :: D.ers (setKey q y ks ds) = (if k = q then _ else d.er :: setKey q y.er ks (D.ers ds)); rw [if_neg hn, i1], fun x hx => by
        rcases List.mem_cons.mp hx with e | hx
        · exact .inr (by rw [e]; simp)
        · exact (i2 x hx).imp id fun z => List.mem_cons_of_mem _ z⟩
theorem setFld_er (q : Nat) (y : D) : ∀ (ks : List Nat) (ds : List D), D.ers (setFld q y ks ds) = setFld q y.er ks (D.ers ds) ∧ ∀ x ∈ setFld q y ks ds, x = y ∨ x ∈ ds
  | [], ds => ⟨by cases ds <;> rfl, fun x hx => by cases ds <;> exact .inr hx⟩
  | k :: ks, [] => ⟨rfl, fun x hx => nomatch hx⟩
  | k :: ks, d :: ds => by
    obtain ⟨i1, i2⟩ := setFld_er q y ks ds
    unfold setFld
    split
    · exact ⟨by show _ = (if k = q then y.er :: D.ers ds else _); rw [if_pos (by assumption)]; rfl, fun x hx => by
        rcases List.mem_cons.mp hx with e | hx
        · exact .inl e
        · exact .inr (List.mem_cons_of_mem _ hx)⟩
    · next hn => exact ⟨by show d.er :: D.ers (setFld q y ks ds) = (if k = q then _ else d.er :: setFld q y.er ks (D.ers ds)); rw [if_neg hn, i1], fun x hx => by
        rcases List.mem_cons.mp hx with e | hx
        · exact .inr (by rw [e]; simp)
        · exact (i2 x hx).imp id fun z => List.mem_cons_of_mem _ z⟩
/-- a store: g on own nodes does what g0 does on canonical ones -/
def Gok (c c' : Cl) (g0 : D → Res D) (g : D → Option D) : Prop := ∀ d0 d, Vc c d0 d → c.sure = true → ∀ d0', g0 d0 = .ok d0' → ∃ d', g d = some d' ∧ Vc c' d0' d'
theorem gok_app {c cy : Cl} {y0 y : D} {o : Bool} (v : Vc cy y0 y) (hc : cy.cl = true) : Gok c (Cl.own (c.kk && !(keptC o cy).o)) (appZ y0) (gApp (kept o y)) := fun d0 d w hs d0' h => by
  have e := w.e
  have hm := w.sure hs
  subst e
  cases d with
  | lst m ds =>
    cases hm
    obtain ⟨kv, kc⟩ := kept_vc (o := o) v hc
    have K : KO c.kk (D.ers ds) ds := ⟨rfl, w.w, fun k => w.h.kk w.w k⟩
    unfold D.er appZ at h
    dsimp only at h
    rw [ers_len] at h
    cases hz : decide (ds.length < sizeLine) with
    | false => rw [hz] at h; cases h
    | true =>
      rw [hz] at h
      cases h
      have hz := of_decide_eq_true hz
      refine ⟨.lst .own (ds ++ [kept o y]), by unfold gApp; dsimp only; rw [if_pos hz], ?_⟩
      have K' := K.of (k' := c.kk && !(keptC o cy).o) (ds0' := D.ers ds ++ [y0]) (ds' := ds ++ [kept o y]) (K.add kv kc) (fun z => by rw [Bool.and_eq_true] at z; exact z.1) (fun x hx => by
        rcases List.mem_append.mp hx with hx | hx
        · exact .inr hx
        · exact .inl (by simpa using hx)) (by rw [ers_app]; show _ ++ [_] = _; rw [kv.e])
      exact ⟨by show D.lst .fz _ = _; rw [K'.e], K'.w, rfl, fun k => K'.k k⟩
  | _ => cases h
theorem gok_put {c cy ck : Cl} {y0 y k0 k : D} {o : Bool} (v : Vc cy y0 y) (vk : Vc ck k0 k) (hc : cy.cl = true) : Gok c (Cl.own (c.kk && !(keptC o cy).o)) (putZ k0 y0) (gPut k (kept o y)) := fun d0 d w hs d0' h => by
  have e := w.e
  have hm := w.sure hs
  subst e
  obtain ⟨kv, kc⟩ := kept_vc (o := o) v hc
  cases d with
  | lst m ds =>
    cases hm
    have K : KO c.kk (D.ers ds) ds := ⟨rfl, w.w, fun k => w.h.kk w.w k⟩
    unfold D.er putZ at h
    dsimp only at h
    rw [← vk.e] at h
    cases k with
    | int i =>
      dsimp only [D.er] at h
      rw [ers_len] at h
      cases hj : ixN ds.length i with
      | none => rw [hj] at h; cases h
      | some j =>
        rw [hj] at h
        cases h
        refine ⟨.lst .own (ds.set j (kept o y)), by unfold gPut; dsimp only; rw [hj]; rfl, ?_⟩
        have K' := K.of (k' := c.kk && !(keptC o cy).o) (ds0' := (D.ers ds).set j y0) (ds' := ds.set j (kept o y)) (K.add kv kc) (fun z => by rw [Bool.and_eq_true] at z; exact z.1) (fun x hx => (List.mem_or_eq_of_mem_set hx).symm) (by rw [ers_map, ers_map, List.map_set, kv.e])
        exact ⟨by show D.lst .fz _ = _; rw [K'.e], K'.w, rfl, fun k => K'.k k⟩
    | _ => cases h
  | dic m ks ds =>
    cases hm
    have K : KO c.kk (D.ers ds) ds := ⟨rfl, w.w, fun k => w.h.kk w.w k⟩
    unfold D.er putZ at h
    dsimp only at h
    rw [← vk.e, key_er] at h
    cases hq : k.key with
    | none => rw [hq] at h; cases h
    | some q =>
      rw [hq] at h
      dsimp only [Res.ofOpt, Res.bind] at h
      cases hz : decide (ks.length < sizeLine) with
      | false => rw [hz] at h; cases h
      | true =>
        rw [hz] at h
        have hz := of_decide_eq_true hz
        dsimp only [Res.guard] at h
        rw [if_pos rfl] at h
        split at h
        · next ha =>
          cases h
          obtain ⟨i1, i2⟩ := setKey_er q (kept o y) ks ds
          refine ⟨.dic .own ks (setKey q (kept o y) ks ds), by unfold gPut; dsimp only; rw [hq]; dsimp only [Option.bind]; rw [if_pos hz, if_pos ha], ?_⟩
          have K' := K.of (k' := c.kk && !(keptC o cy).o) (ds0' := setKey q y0 ks (D.ers ds)) (ds' := setKey q (kept o y) ks ds) (K.add kv kc) (fun z => by rw [Bool.and_eq_true] at z; exact z.1) i2 (by rw [i1, kv.e])
          exact ⟨by show D.dic .fz _ _ = _; rw [K'.e], K'.w, rfl, fun k => K'.k k⟩
        · next ha =>
          cases h
          refine ⟨.dic .own (ks ++ [q]) (ds ++ [kept o y]), by unfold gPut; dsimp only; rw [hq]; dsimp only [Option.bind]; rw [if_pos hz, if_neg ha], ?_⟩
          have K' := K.of (k' := c.kk && !(keptC o cy).o) (ds0' := D.ers ds ++ [y0]) (ds' := ds ++ [kept o y]) (K.add kv kc) (fun z => by rw [Bool.and_eq_true] at z; exact z.1) (fun x hx => by
            rcases List.mem_append.mp hx with hx | hx
            · exact .inr hx
            · exact .inl (by simpa using hx)) (by rw [ers_app]; show _ ++ [_] = _; rw [kv.e])
          exact ⟨by show D.dic .fz _ _ = _; rw [K'.e], K'.w, rfl, fun k => K'.k k⟩
  | _ => cases h
theorem gok_fput {c cy : Cl} {y0 y : D} {o : Bool} {ok : Nat → Nat → Bool} {f : Nat} (v : Vc cy y0 y) (hc : cy.cl = true) : Gok c (Cl.own (c.kk && !(keptC o cy).o)) (fputZ ok f y0) (gFput ok f (kept o y)) := fun d0 d w hs d0' h => by
  have e := w.e
  have hm := w.sure hs
  subst e
  obtain ⟨kv, kc⟩ := kept_vc (o := o) v hc
  cases d with
  | ins m q fs ds =>
    cases hm
    have K : KO c.kk (D.ers ds) ds := ⟨rfl, w.w, fun k => w.h.kk w.w k⟩
    unfold D.er fputZ at h
    dsimp only at h
    cases hz : (ok q f && decide (fs.length < 900)) with
    | false => rw [hz] at h; cases h
    | true =>
      rw [hz] at h
      dsimp only [Res.guard] at h
      rw [if_pos rfl] at h
      split at h
      · next ha =>
        cases h
        obtain ⟨i1, i2⟩ := setFld_er f (kept o y) fs ds
        refine ⟨.ins .own q fs (setFld f (kept o y) fs ds), by unfold gFput; dsimp only; rw [hz, if_neg (by simp), if_pos ha], ?_⟩
        have K' := K.of (k' := c.kk && !(keptC o cy).o) (ds0' := setFld f y0 fs (D.ers ds)) (ds' := setFld f (kept o y) fs ds) (K.add kv kc) (fun z => by rw [Bool.and_eq_true] at z; exact z.1) i2 (by rw [i1, kv.e])
        exact ⟨by show D.ins .fz _ _ _ = _; rw [K'.e], K'.w, rfl, fun k => K'.k k⟩
      · next ha =>
        cases h
        refine ⟨.ins .own q (fs ++ [f]) (ds ++ [kept o y]), by unfold gFput; dsimp only; rw [hz, if_neg (by simp), if_neg ha], ?_⟩
        have K' := K.of (k' := c.kk && !(keptC o cy).o) (ds0' := D.ers ds ++ [y0]) (ds' := ds ++ [kept o y]) (K.add kv kc) (fun z => by rw [Bool.and_eq_true] at z; exact z.1) (fun x hx => by
          rcases List.mem_append.mp hx with hx | hx
          · exact .inr hx
          · exact .inl (by simpa using hx)) (by rw [ers_app]; show _ ++ [_] = _; rw [kv.e])
        exact ⟨by show D.ins .fz _ _ _ = _; rw [K'.e], K'.w, rfl, fun k => K'.k k⟩
  | _ => cases h
theorem gok_clr {c : Cl} : Gok c (Cl.own true) clrZ gClr := fun d0 d w hs d0' h => by
  have e := w.e
  have hm := w.sure hs
  subst e
  cases d with
  | lst m ds => cases hm; cases h; exact ⟨.lst .own [], rfl, rfl, rfl, rfl, fun _ x hx => nomatch hx⟩
  | dic m ks ds => cases hm; cases h; exact ⟨.dic .own [] [], rfl, rfl, rfl, rfl, fun _ x hx => nomatch hx⟩
  | _ => cases h
theorem gok_ext {c cy : Cl} {m : Md} {ys : List D} (v : Vc cy (.lst .fz (D.ers ys)) (.lst m ys)) (hk : cy.kc = true) : Gok c (Cl.own c.kk) (extZ (.lst .fz (D.ers ys))) (gExt (D.own2s .fz ys)) := fun d0 d w hs d0' h => by
  have e := w.e
  have hm := w.sure hs
  subst e
  cases d with
  | lst m ds =>
    cases hm
    have K : KO c.kk (D.ers ds) ds := ⟨rfl, w.w, fun k => w.h.kk w.w k⟩
    unfold D.er extZ at h
    dsimp only at h
    rw [ers_len, ers_len] at h
    cases hz : decide (ds.length + ys.length ≤ sizeLine) with
    | false => rw [hz] at h; cases h
    | true =>
      rw [hz] at h
      cases h
      have hz := of_decide_eq_true hz
      have hl : (D.own2s .fz ys).length = ys.length := by rw [own2s_map, List.length_map]
      obtain ⟨o1, o2⟩ := own_fz (cls_of v hk)
      refine ⟨.lst .own (ds ++ D.own2s .fz ys), by unfold gExt; dsimp only; rw [hl, if_pos hz], ?_, ?_, rfl, fun k x hx => ?_⟩
      · show D.lst .fz _ = _
        rw [ers_app, ers_own2s]
      · show D.wms .own _ = true
        rw [wms_iff]
        intro x hx
        rcases List.mem_append.mp hx with hx | hx
        · exact wms_iff.mp K.w x hx
        · exact wms_iff.mp o1 x hx
      · rcases List.mem_append.mp hx with hx | hx
        · exact K.k k x hx
        · exact o2 x hx
  | _ => cases h
end GS

namespace GS
open PySem PySem.Spec PyProof.Rows L2

/-! ## statements keep what was told ahead -/
section
variable {A : AG} {Z G : GE} {np : Nat}
theorem rr_slot {Γ : List Cl} {s0 s : Sl} (R : SR Γ s0 s) {i : Nat} {c : Cl} (hc : Γ[i]? = some c) : RRp (fun d0 d => s[i]? = some (some d) ∧ Vc c d0 d) (slotZ s0 i) (slotZ s i) := by
  unfold slotZ
  split
  · next d0 e =>
    obtain ⟨c', d, e1, e2, v⟩ := R.get e
    rw [hc] at e1; cases e1
    rw [e2]; exact .ok ⟨rfl, v⟩
  · trivial
theorem slot_at {s : Sl} {i : Nat} {d : D} (h : s[i]? = some (some d)) : slotZ s i = .ok d := by unfold slotZ; rw [h]
theorem slot_ok {s : Sl} {i : Nat} {d : D} (h : slotZ s i = .ok d) : s[i]? = some (some d) := by
  unfold slotZ at h
  split at h
  · next e => cases h; exact e
  · cases h
theorem SR.len {Γ : List Cl} {s0 s : Sl} (R : SR Γ s0 s) : s.length = s0.length := by
  induction R with
  | nil => rfl
  | non _ ih => simp [ih]
  | som _ _ ih => simp [ih]
theorem or_one {Γ Γ' : List Cl} {r : AO} (h : one Γ' = some r) {s0 s : Sl} (R : SR Γ' s0 s) : ORl r (.nx s0) (.nx s) := by
  unfold one at h
  cases h
  exact ⟨s, Γ', rfl, rfl, R⟩
theorem or_stuck {r : AO} {o : Out} : ORl r .stuck o := trivial
/-- a store at a slot -/
theorem or_store {Γ : List Cl} {r : AO} {c c' : Cl} {i : Nat} {s0 s : Sl} (R : SR Γ s0 s) (hc : Γ[i]? = some c) (hs : c.sure = true) {g0 : D → Res D} {g : D → Option D} (hg : Gok c c' g0 g) (h : one (Γ.set i c') = some r) (hx : ∀ d e ds, g0 d ≠ .ex e ds) :
    ORl r (Out.ofRes s0 ((slotZ s0 i).bind g0) fun d => .nx (s0.set i (some d))) (atSlot i [] g s) := by
  cases e0 : slotZ s0 i with
  | stuck => exact or_stuck
  | ex e ds => unfold slotZ at e0; split at e0 <;> cases e0
  | ok d0 =>
    obtain ⟨c', d, e1, e2, v⟩ := R.get (slot_ok e0)
    rw [hc] at e1; cases e1
    dsimp only [Res.bind]
    cases e3 : g0 d0 with
    | stuck => exact or_stuck
    | ex e ds => exact absurd e3 (hx _ _ _)
    | ok d0' =>
      obtain ⟨d', e4, v'⟩ := hg d0 d v hs d0' e3
      unfold atSlot
      rw [e2]
      dsimp only [updAt]
      rw [e4]
      exact or_one (Γ := Γ) h (R.set v' i)
theorem nx_app (y d : D) : ∀ e ds, appZ y d ≠ .ex e ds := fun e ds => by
  cases d with
  | lst m xs => unfold appZ; dsimp only; cases decide (xs.length < sizeLine) <;> (intro z; cases z)
  | _ => intro z; cases z
theorem nx_ext (y d : D) : ∀ e ds, extZ y d ≠ .ex e ds := fun e ds => by
  cases d with
  | lst m xs =>
    cases y with
    | lst m ys => unfold extZ; dsimp only; cases decide (xs.length + ys.length ≤ sizeLine) <;> (intro z; cases z)
    | _ => intro z; cases z
  | _ => intro z; cases z
theorem nx_clr (d : D) : ∀ e ds, clrZ d ≠ .ex e ds := fun e ds => by cases d <;> (intro z; cases z)
theorem nx_put (k y d : D) : ∀ e ds, putZ k y d ≠ .ex e ds := fun e ds => by
  cases d with
  | lst m xs =>
    cases k with
    | int i => unfold putZ; dsimp only; cases ixN xs.length i <;> (intro z; cases z)
    | _ => intro z; cases z
  | dic m ks xs =>
    unfold putZ
    dsimp only
    cases D.key k with
    | none => intro z; cases z
    | some q =>
      dsimp only [Res.ofOpt, Res.bind]
      cases decide (ks.length < sizeLine) with
      | false => intro z; cases z
      | true => dsimp only [Res.guard]; rw [if_pos rfl]; split <;> (intro z; cases z)
  | _ => intro z; cases z
theorem nx_fput (ok : Nat → Nat → Bool) (f : Nat) (y d : D) : ∀ e ds, fputZ ok f y d ≠ .ex e ds := fun e ds => by
  cases d with
  | ins m c fs xs =>
    unfold fputZ
    dsimp only
    cases (ok c f && decide (fs.length < 900)) with
    | false => intro z; cases z
    | true => dsimp only [Res.guard]; rw [if_pos rfl]; split <;> (intro z; cases z)
  | _ => intro z; cases z
theorem loop_ok {Γ J : List Cl} {step : List Cl → Option AO} {r : AO} : ∀ {n : Nat} {K : List Cl}, aLoop Γ step n K = some (J, r) → step J = some r ∧ leG Γ J = true ∧ ∀ x ∈ r.pts, leG x J = true
  | 0, K, h => by unfold aLoop at h; cases h
  | n + 1, K, h => by
    unfold aLoop at h
    obtain ⟨q, hq, h⟩ := Option.bind_eq_some_iff.mp h
    split at h
    · next ha =>
      split at h
      · next hl => cases h; exact ⟨hq, hl, fun x hx => List.all_eq_true.mp ha x hx⟩
      · cases h
    · exact loop_ok h
theorem pts_nx {r : AO} {Γ : List Cl} (h : r.nx = some Γ) : Γ ∈ r.pts := by unfold AO.pts; rw [h]; simp
theorem pts_lp {r : AO} {Γ : List Cl} (h : Γ ∈ r.lp) : Γ ∈ r.pts := by unfold AO.pts; split <;> simp [h]
/-- a for's loop -/
theorem for_or {J : List Cl} {av : AV} {r : AO} {bnd0 bnd : D → Sl → Option Sl} {b0 b : Sl → Out} {J' : List Cl} (hb : ∀ d0 d s0 s, av.has d0 d → SR J s0 s → ∀ s0', bnd0 d0 s0 = some s0' → ∃ s', bnd d s = some s' ∧ SR J' s0' s')
    (hB : ∀ s0 s, SR J' s0 s → ORl r (b0 s0) (b s)) (hp : ∀ x ∈ r.pts, leG x J = true) {ds0 ds : List D} (h : AL av ds0 ds) : ∀ {s0 s : Sl}, SR J s0 s → ORl ⟨some J, [], r.rt⟩ (forL bnd0 b0 ds0 s0) (forL bnd b ds s) := by
  induction h with
  | nil => intro s0 s R; exact ⟨s, J, rfl, rfl, R⟩
  | cons h _ ih =>
    intro s0 s R
    unfold forL
    cases e : bnd0 _ s0 with
    | none => exact or_stuck
    | some s1 =>
      obtain ⟨s1', e1, R1⟩ := hb _ _ s0 s h R s1 e
      rw [e1]
      dsimp only
      have hh := hB s1 s1' R1
      cases e2 : b0 s1 with
      | stuck => exact or_stuck
      | nx s2 =>
        rw [e2] at hh
        obtain ⟨s2', Γ, e3, e4, R2⟩ := hh
        rw [e3]
        exact ih (R2.le (hp Γ (pts_nx e4)))
      | ct s2 =>
        rw [e2] at hh
        obtain ⟨s2', Γ, e3, e4, R2⟩ := hh
        rw [e3]
        exact ih (R2.le (hp Γ (pts_lp e4)))
      | bk s2 =>
        rw [e2] at hh
        obtain ⟨s2', Γ, e3, e4, R2⟩ := hh
        rw [e3]
        exact ⟨s2', J, rfl, rfl, R2.le (hp Γ (pts_lp e4))⟩
      | rt d s2 =>
        rw [e2] at hh
        obtain ⟨d', s2', e3, v, hc⟩ := hh
        rw [e3]
        exact ⟨d', s2', rfl, v, hc⟩
      | ex c ds s2 =>
        rw [e2] at hh
        obtain ⟨s2', e3, v⟩ := hh
        rw [e3]
        exact ⟨s2', rfl, v⟩
/-- a while's loop -/
theorem whr_or {J : List Cl} {r : AO} {t0 t : Sl → Res Bool} {b0 b : Sl → Out} (ht : ∀ s0 s, SR J s0 s → RRp (fun a b => a = b) (t0 s0) (t s)) (hB : ∀ s0 s, SR J s0 s → ORl r (b0 s0) (b s)) (hp : ∀ x ∈ r.pts, leG x J = true) {s0 : Sl} {o0 : Out}
    (hw : WhR (fun s => toStep s (t0 s) b0) s0 o0) : o0 ≠ .stuck → ∀ {s : Sl}, SR J s0 s → ∃ o, WhR (fun s => toStep s (t s) b) s o ∧ ORl ⟨some J, [], r.rt⟩ o0 o := by
  induction hw with
  | @stop s1 o1 e =>
    intro hst s R
    replace e : toStep s1 (t0 s1) b0 = .inr o1 := e
    unfold toStep at e
    have hh := ht s1 s R
    cases e1 : t0 s1 with
    | stuck => rw [e1] at e; cases e; exact absurd rfl hst
    | ex c ds =>
      rw [e1] at e hh
      cases e
      exact ⟨.ex c ds s, .stop (by show toStep s (t s) b = _; rw [hh.1]; rfl), ⟨s, rfl, hh.2⟩⟩
    | ok q =>
      rw [e1] at e hh
      obtain ⟨q', e2, rfl⟩ := hh
      cases q with
      | false =>
        cases e
        exact ⟨.nx s, .stop (by show toStep s (t s) b = _; rw [e2]; rfl), ⟨s, J, rfl, rfl, R⟩⟩
      | true =>
        have hb := hB s1 s R
        dsimp only at e
        cases e3 : b0 s1 with
        | stuck => rw [e3] at e; cases e; exact absurd rfl hst
        | nx s2 => rw [e3] at e; cases e
        | ct s2 => rw [e3] at e; cases e
        | bk s2 =>
          rw [e3] at e hb
          cases e
          obtain ⟨s2', Γ, e4, e5, R2⟩ := hb
          exact ⟨.nx s2', .stop (by show toStep s (t s) b = _; rw [e2]; unfold toStep; dsimp only; rw [e4]), ⟨s2', J, rfl, rfl, R2.le (hp Γ (pts_lp e5))⟩⟩
        | rt d s2 =>
          rw [e3] at e hb
          cases e
          obtain ⟨d', s2', e4, v, hc⟩ := hb
          exact ⟨.rt d' s2', .stop (by show toStep s (t s) b = _; rw [e2]; unfold toStep; dsimp only; rw [e4]), ⟨d', s2', rfl, v, hc⟩⟩
        | ex c ds s2 =>
          rw [e3] at e hb
          cases e
          obtain ⟨s2', e4, v⟩ := hb
          exact ⟨.ex c ds s2', .stop (by show toStep s (t s) b = _; rw [e2]; unfold toStep; dsimp only; rw [e4]), ⟨s2', rfl, v⟩⟩
  | @more s1 s2 o1 e _ ih =>
    intro hst s R
    replace e : toStep s1 (t0 s1) b0 = .inl s2 := e
    unfold toStep at e
    have hh := ht s1 s R
    cases e1 : t0 s1 with
    | stuck => rw [e1] at e; cases e
    | ex c ds => rw [e1] at e; cases e
    | ok q =>
      rw [e1] at e hh
      obtain ⟨q', e2, rfl⟩ := hh
      cases q with
      | false => cases e
      | true =>
        have hb := hB s1 s R
        dsimp only at e
        cases e3 : b0 s1 with
        | nx s3 =>
          rw [e3] at e hb
          cases e
          obtain ⟨s2', Γ, e4, e5, R2⟩ := hb
          obtain ⟨o, h1, h2⟩ := ih hst (R2.le (hp Γ (pts_nx e5)))
          exact ⟨o, .more (by show toStep s (t s) b = _; rw [e2]; unfold toStep; dsimp only; rw [e4]) h1, h2⟩
        | ct s3 =>
          rw [e3] at e hb
          cases e
          obtain ⟨s2', Γ, e4, e5, R2⟩ := hb
          obtain ⟨o, h1, h2⟩ := ih hst (R2.le (hp Γ (pts_lp e5)))
          exact ⟨o, .more (by show toStep s (t s) b = _; rw [e2]; unfold toStep; dsimp only; rw [e4]) h1, h2⟩
        | _ => rw [e3] at e; cases e
theorem while_or {J : List Cl} {r : AO} {t0 t : Sl → Res Bool} {b0 b : Sl → Out} (ht : ∀ s0 s, SR J s0 s → RRp (fun a b => a = b) (t0 s0) (t s)) (hB : ∀ s0 s, SR J s0 s → ORl r (b0 s0) (b s)) (hp : ∀ x ∈ r.pts, leG x J = true) {s0 s : Sl} (R : SR J s0 s) :
    ORl ⟨some J, [], r.rt⟩ (whileV (fun s => toStep s (t0 s) b0) s0) (whileV (fun s => toStep s (t s) b) s) := by
  by_cases hst : whileV (fun s => toStep s (t0 s) b0) s0 = .stuck
  · rw [hst]; exact or_stuck
  · obtain ⟨o, h1, h2⟩ := whr_or ht hB hp (whileV_rel hst) hst R
    rw [whileV_eq h1]; exact h2
theorem rr_tt {Γ : List Cl} {c : Cl} {t : Tm} (H : GR A Z G) (h : aE A t (vwG Γ) = some c) (s0 s : Sl) (R : SR Γ s0 s) : RRp (fun a b => a = b) ((evZ Z t s0).bind vTru) ((evalE G t (viewS s)).bind vTru) :=
  (zE H t _ c h s0 _ R.view).bind fun _ _ v => rr_tru v
mutual
theorem zS (H : GR A Z G) : ∀ (cm : Cm) (Γ : List Cl) (r : AO), aS A np cm Γ = some r → ∀ s0 s, SR Γ s0 s → ORl r (exZ Z whileV cm s0) (exec G whileV np cm s)
  | .set i t, Γ, r, h, s0, s, R => by
    unfold aS at h
    obtain ⟨c, hc, h⟩ := Option.bind_eq_some_iff.mp h
    split at h
    · next hk =>
      unfold exZ exec
      refine or_res (zE H t _ c hc s0 _ R.view) fun d0 d v => ?_
      simp only [okS, Bool.and_eq_true, Bool.not_eq_true'] at hk
      have : setS np i d s = some (s.set i (some d)) := by unfold setS; rw [free_of R hk.2, v.notVw hk.1]; rfl
      rw [this]
      exact or_one (Γ := Γ) h (R.set v i)
    · cases h
  | .unp g t, Γ, r, h, s0, s, R => by
    unfold aS at h
    obtain ⟨c, hc, h⟩ := Option.bind_eq_some_iff.mp h
    obtain ⟨Γ', hb, h⟩ := Option.bind_eq_some_iff.mp h
    unfold exZ exec
    refine or_res (zE H t _ c hc s0 _ R.view) fun d0 d v => ?_
    cases e : bindT g d0 s0 with
    | none => exact or_stuck
    | some s0' =>
      obtain ⟨s', e1, R'⟩ := btS np g (.leaf c) Γ Γ' hb (.inr ⟨c, rfl⟩) s0 s s0' d0 d R v e
      rw [e1]
      exact or_one (Γ := Γ) h R'
  | .par _ _ _ _, Γ, r, h, _, _, _ => by unfold aS at h; cases h
  | .aug _ _ _, Γ, r, h, _, _, _ => by unfold aS at h; cases h
  | .put o i ss ix t, Γ, r, h, s0, s, R => by
    unfold aS at h
    obtain ⟨cy, hy, h⟩ := Option.bind_eq_some_iff.mp h
    obtain ⟨ck, hk, h⟩ := Option.bind_eq_some_iff.mp h
    obtain ⟨c, hc, h⟩ := Option.bind_eq_some_iff.mp h
    split at h
    · next hl =>
      have hf := h
      simp only [Bool.and_eq_true, List.isEmpty_iff] at hl
      obtain ⟨⟨rfl, hs⟩, hcl⟩ := hl
      unfold exZ exec evalSt
      refine or_res (zE H t _ cy hy s0 _ R.view) fun y0 y v => ?_
      cases e0 : slotZ s0 i with
      | stuck => exact or_stuck
      | ex e ds => unfold slotZ at e0; split at e0 <;> cases e0
      | ok d0 =>
        obtain ⟨c', d, e1, e2, w⟩ := R.get (slot_ok e0)
        rw [hc] at e1; cases e1
        have hh : hasAt i [] (fun d => decide (d.md = .own)) s = true := by
          unfold hasAt; rw [e2]; dsimp only [updAt]; rw [if_pos (by rw [w.sure hs]; rfl)]; rfl
        dsimp only [Out.ofRes]
        rw [if_pos hh]
        refine or_res (zE H ix _ ck hk s0 _ R.view) fun k0 k vk => ?_
        rw [if_pos (v.cl hcl), ← e0]
        exact or_store R hc hs (gok_put v vk hcl) hf fun d => nx_put _ _ d
    · cases h
  | .fput o i ss f t, Γ, r, h, s0, s, R => by
    unfold aS at h
    obtain ⟨cy, hy, h⟩ := Option.bind_eq_some_iff.mp h
    obtain ⟨c, hc, h⟩ := Option.bind_eq_some_iff.mp h
    split at h
    · next hl =>
      have hf := h
      simp only [Bool.and_eq_true, List.isEmpty_iff] at hl
      obtain ⟨⟨rfl, hs⟩, hcl⟩ := hl
      unfold exZ exec evalSt
      refine or_res (zE H t _ cy hy s0 _ R.view) fun y0 y v => ?_
      dsimp only [Out.ofRes]
      rw [if_pos (v.cl hcl), H.fok]
      exact or_store R hc hs (gok_fput v hcl) hf fun d => nx_fput _ _ _ d
    · cases h
  | .app o i ss t, Γ, r, h, s0, s, R => by
    unfold aS at h
    obtain ⟨cy, hy, h⟩ := Option.bind_eq_some_iff.mp h
    obtain ⟨c, hc, h⟩ := Option.bind_eq_some_iff.mp h
    split at h
    · next hl =>
      have hf := h
      simp only [Bool.and_eq_true, List.isEmpty_iff] at hl
      obtain ⟨⟨rfl, hs⟩, hcl⟩ := hl
      unfold exZ exec evalSt
      cases e0 : slotZ s0 i with
      | stuck => exact or_stuck
      | ex e ds => exact or_stuck
      | ok d0 =>
        cases d0 <;> first | exact or_stuck | skip
        next m0 ds0 =>
        obtain ⟨c', d, e1, e2, w⟩ := R.get (slot_ok e0)
        rw [hc] at e1; cases e1
        have hm := w.sure hs
        have he := w.e
        have hh : hasAt i [] isLstO s = true := by
          unfold hasAt
          rw [e2]
          dsimp only [updAt]
          cases d <;> first | (cases he; done) | skip
          cases hm; rfl
        dsimp only [Out.ofRes]
        rw [if_pos hh]
        refine or_res (zE H t _ cy hy s0 _ R.view) fun y0 y v => ?_
        rw [← e0]
        rw [if_pos (v.cl hcl)]
        exact or_store R hc hs (gok_app v hcl) hf fun d => nx_app _ d
    · cases h
  | .ext i ss t, Γ, r, h, s0, s, R => by
    unfold aS at h
    obtain ⟨cy, hy, h⟩ := Option.bind_eq_some_iff.mp h
    obtain ⟨c, hc, h⟩ := Option.bind_eq_some_iff.mp h
    split at h
    · next hl =>
      have hf := h
      simp only [Bool.and_eq_true, List.isEmpty_iff] at hl
      obtain ⟨⟨⟨rfl, hs⟩, hk⟩, hcl⟩ := hl
      unfold exZ exec evalSt
      cases e0 : slotZ s0 i with
      | stuck => exact or_stuck
      | ex e ds => exact or_stuck
      | ok d0 =>
        cases d0 <;> first | exact or_stuck | skip
        next m0 ds0 =>
        obtain ⟨c', d, e1, e2, w⟩ := R.get (slot_ok e0)
        rw [hc] at e1; cases e1
        have hm := w.sure hs
        have he := w.e
        have hh : hasAt i [] isLstO s = true := by
          unfold hasAt
          rw [e2]
          dsimp only [updAt]
          cases d <;> first | (cases he; done) | skip
          cases hm; rfl
        dsimp only [Out.ofRes]
        rw [if_pos hh]
        refine or_res (zE H t _ cy hy s0 _ R.view) fun y0 y v => ?_
        rw [← e0]
        have hv := v.e
        subst hv
        cases y <;> first | skip | skip
        case lst m ys =>
          have hmd := v.cl hcl
          have hg : (ys.all D.cl && !(decide (m = .vw)) && !(decide (m = .br))) = true := by
            have : m = .own ∨ m = .fz := by
              cases m <;> first | exact .inl rfl | exact .inr rfl | cases hmd
            rw [List.all_eq_true.mpr fun z hz => (cls_of v hk z hz).2]
            rcases this with e | e <;> subst e <;> rfl
          dsimp only
          rw [if_pos hg]
          exact or_store R hc hs (gok_ext v hk) hf fun d => nx_ext _ d
        all_goals
          have hx : ∀ y : D, (∀ m ys, y ≠ .lst m ys) → ((slotZ s0 i).bind (extZ y)) = .stuck := fun y hy => by
            rw [e0]
            cases y <;> first | rfl | exact absurd rfl (hy _ _)
          rw [hx _ (by intro m ys z; cases z)]
          exact or_stuck
    · cases h
  | .clr i ss, Γ, r, h, s0, s, R => by
    unfold aS at h
    obtain ⟨c, hc, h⟩ := Option.bind_eq_some_iff.mp h
    split at h
    · next hl =>
      have hf := h
      simp only [Bool.and_eq_true, List.isEmpty_iff] at hl
      obtain ⟨rfl, hs⟩ := hl
      unfold exZ exec evalSt
      exact or_store R hc hs gok_clr hf fun d => nx_clr d
    · cases h
  | .ex t, Γ, r, h, s0, s, R => by
    unfold aS at h
    obtain ⟨c, hc, h⟩ := Option.bind_eq_some_iff.mp h
    unfold exZ exec
    exact or_res (zE H t _ c hc s0 _ R.view) fun d0 d v => or_one (Γ := Γ) h R
  | .ini k es, Γ, r, h, s0, s, R => by
    unfold aS at h
    obtain ⟨cs, hx, h⟩ := Option.bind_eq_some_iff.mp h
    obtain ⟨c, hc, h⟩ := Option.bind_eq_some_iff.mp h
    obtain ⟨f, hf, h⟩ := Option.bind_eq_some_iff.mp h
    obtain ⟨p, hp, h⟩ := Option.bind_eq_some_iff.mp h
    split at h
    · next q ps e =>
      split at h
      · next hl =>
        simp only [Bool.and_eq_true] at hl
        obtain ⟨⟨⟨hs, hq⟩, ha⟩, hfs⟩ := hl
        unfold exZ exec
        refine or_res (zL H es _ cs hx _ _ (R.del 0).view).noEx fun as bs w => ?_
        rw [H.ainit] at hf
        rw [H.init, hf]
        dsimp only
        cases e0 : slotZ s0 0 with
        | stuck => exact or_stuck
        | ex e ds => exact or_stuck
        | ok d0 =>
          obtain ⟨c', d, e1, e2, v⟩ := R.get (slot_ok e0)
          rw [hc] at e1; cases e1
          have hm := v.sure hs
          have he := v.e
          cases d0 <;> first | exact or_stuck | skip
          next m k2 fs vs0 =>
          cases d <;> first | (cases he; done) | skip
          next m' k' fs' vs =>
          cases hm
          have he' : D.ins .fz k' fs' (D.ers vs) = .ins m k2 fs vs0 := he
          cases he'
          rw [e2]
          dsimp only
          have hr := H.call f p.1 p.2 hp (.ins .fz k2 fs (D.ers vs) :: as) (.ins .own k2 fs vs :: bs.map D.arg) (by rw [e]; exact .cons (v.le hq) (w.args ha))
          cases er : Z.call f (.ins .fz k2 fs (D.ers vs) :: as) with
          | stuck => exact or_stuck
          | ex e ds fs0 =>
            rw [er] at hr
            obtain ⟨fs1, e3, hv⟩ := hr
            rw [e3]
            exact ⟨_, rfl, hv⟩
          | ret d0 fs0 =>
            rw [er] at hr
            obtain ⟨d, fins, e3, _, hf⟩ := hr
            cases fs0 with
            | nil => exact or_stuck
            | cons o fs0 =>
              cases o with
              | none => exact or_stuck
              | some x0 =>
                obtain ⟨x, t, rfl, vx⟩ := hf ⟨_, _, rfl, rfl⟩ x0 fs0 rfl
                rw [e3]
                dsimp only
                rw [if_pos (vx.sure hfs)]
                exact or_one (Γ := Γ) h (R.set vx 0)
      · cases h
    · cases h
  | .ret t, Γ, r, h, s0, s, R => by
    unfold aS at h
    obtain ⟨c, hc, h⟩ := Option.bind_eq_some_iff.mp h
    split at h
    · next hl =>
      cases h
      unfold exZ exec
      refine or_res (zE H t _ c hc s0 _ R.view) fun d0 d v => ?_
      rw [if_pos (v.cl hl)]
      exact ⟨d, s, rfl, v, v.cl hl⟩
    · cases h
  | .retv i, Γ, r, h, s0, s, R => by
    unfold aS at h
    obtain ⟨c, hc, h⟩ := Option.bind_eq_some_iff.mp h
    split at h
    · next hl =>
      cases h
      rw [Bool.and_eq_true] at hl
      unfold exZ exec
      cases e0 : slotZ s0 i with
      | stuck => exact or_stuck
      | ex e ds => unfold slotZ at e0; split at e0 <;> cases e0
      | ok d0 =>
        obtain ⟨c', d, e1, e2, v⟩ := R.get (slot_ok e0)
        rw [hc] at e1; cases e1
        rw [e2]
        dsimp only [Out.ofRes]
        rw [v.cl hl.1, hl.2]
        exact ⟨d, _, rfl, v, v.cl hl.1⟩
    · cases h
  | .ret0, Γ, r, h, s0, s, R => by
    unfold aS at h
    cases h
    unfold exZ exec
    exact ⟨.non, s, rfl, vc_non, rfl⟩
  | .ite c a b, Γ, r, h, s0, s, R => by
    unfold aS at h
    obtain ⟨cc, hc, h⟩ := Option.bind_eq_some_iff.mp h
    obtain ⟨x, hx, h⟩ := Option.bind_eq_some_iff.mp h
    obtain ⟨y, hy, h⟩ := Option.bind_eq_some_iff.mp h
    obtain ⟨j1, j2⟩ := join_or h
    unfold exZ exec
    refine or_res (rr_tt H hc s0 s R) fun q _ e => ?_
    subst e
    cases q with
    | true => exact j1 _ _ (zSs H a Γ x hx s0 s R)
    | false => exact j2 _ _ (zSs H b Γ y hy s0 s R)
  | .whl c b, Γ, r, h, s0, s, R => by
    unfold aS at h
    obtain ⟨p, hp, h⟩ := Option.bind_eq_some_iff.mp h
    cases h
    obtain ⟨h1, h2, h3⟩ := loop_ok (J := p.1) (r := p.2) hp
    obtain ⟨cc, hc, h1⟩ := Option.bind_eq_some_iff.mp h1
    unfold exZ exec
    exact while_or (r := p.2) (fun s0 s R => rr_tt H hc s0 s R) (fun s0 s R => zSs H b p.1 p.2 h1 s0 s R) h3 (R.le h2)
  | .for_ g it b, Γ, r, h, s0, s, R => by
    unfold aS at h
    obtain ⟨av, ha, h⟩ := Option.bind_eq_some_iff.mp h
    obtain ⟨p, hp, h⟩ := Option.bind_eq_some_iff.mp h
    cases h
    obtain ⟨h1, h2, h3⟩ := loop_ok (J := p.1) (r := p.2) hp
    obtain ⟨J', hb, h1⟩ := Option.bind_eq_some_iff.mp h1
    obtain ⟨hno, hI⟩ := zI H it true _ av ha
    unfold exZ exec
    exact or_res (hI s0 _ R.view) fun ds0 ds hA => for_or (r := p.2) (J := p.1) (J' := J') (fun d0 d s0 s hd R s0' e => btS np g av _ J' hb (.inl hno) s0 s s0' d0 d R hd e) (fun s0 s R => zSs H b J' p.2 h1 s0 s R) h3 hA (R.le h2)
  | .brk, Γ, r, h, s0, s, R => by
    unfold aS at h
    cases h
    unfold exZ exec
    exact ⟨s, Γ, rfl, by simp, R⟩
  | .cnt, Γ, r, h, s0, s, R => by
    unfold aS at h
    cases h
    unfold exZ exec
    exact ⟨s, Γ, rfl, by simp, R⟩
  | .pas, Γ, r, h, s0, s, R => by
    unfold aS at h
    unfold exZ exec
    exact or_one (Γ := Γ) h R
  | .rai e es, Γ, r, h, s0, s, R => by
    unfold aS at h
    obtain ⟨cs, hc, h⟩ := Option.bind_eq_some_iff.mp h
    split at h
    · next hl =>
      cases h
      unfold exZ exec
      refine or_res (zL H es _ cs hc s0 _ R.view) fun as bs w => ?_
      have hh : D.own2s .fz bs = as ∧ ∀ d ∈ as, Vc Cl.F d d := by
        clear hc
        induction w with
        | nil => exact ⟨rfl, fun _ z => nomatch z⟩
        | cons v _ ih =>
          simp only [List.all_cons, Bool.and_eq_true] at hl
          obtain ⟨i1, i2⟩ := ih hl.2
          have u := vc_cfz v.w (v.cl hl.1)
          have q := u.fz rfl
          rw [v.e] at q u
          refine ⟨by show D.own2 .fz _ :: D.own2s .fz _ = _; rw [i1, q.1], fun x hx => ?_⟩
          rcases List.mem_cons.mp hx with e | hx
          · subst e; rw [q.1] at u; exact u
          · exact i2 x hx
      have hlen : bs.length = as.length := by rw [← hh.1, own2s_len]
      rw [w.cls hl, H.sub, H.xf, Bool.true_and, hlen]
      split
      · rw [hh.1]; exact ⟨s, rfl, hh.2⟩
      · exact or_stuck
    · cases h
  | .try_ b hs, Γ, r, h, s0, s, R => by
    unfold aS at h
    obtain ⟨x, hx, h⟩ := Option.bind_eq_some_iff.mp h
    obtain ⟨y, hy, h⟩ := Option.bind_eq_some_iff.mp h
    obtain ⟨j1, j2⟩ := join_or h
    have hb := zSs H b Γ x hx s0 s R
    unfold exZ exec
    cases e : exZs Z whileV b s0 with
    | stuck => exact or_stuck
    | ex c ds s1 =>
      rw [e] at hb
      obtain ⟨s1', e1, v⟩ := hb
      rw [e1]
      exact j2 _ _ (zH H hs Γ y hy s0 s R c ds v)
    | nx s1 => rw [e] at hb; have hb' := hb; obtain ⟨s1', Γ1, e1, _⟩ := hb'; rw [e1]; rw [e1] at hb; exact j1 (.nx s1) (.nx s1') hb
    | bk s1 => rw [e] at hb; have hb' := hb; obtain ⟨s1', Γ1, e1, _⟩ := hb'; rw [e1]; rw [e1] at hb; exact j1 (.bk s1) (.bk s1') hb
    | ct s1 => rw [e] at hb; have hb' := hb; obtain ⟨s1', Γ1, e1, _⟩ := hb'; rw [e1]; rw [e1] at hb; exact j1 (.ct s1) (.ct s1') hb
    | rt d s1 => rw [e] at hb; have hb' := hb; obtain ⟨d', s1', e1, _⟩ := hb'; rw [e1]; rw [e1] at hb; exact j1 (.rt d s1) (.rt d' s1') hb
  | .frz i, Γ, r, h, s0, s, R => by
    unfold aS at h
    obtain ⟨c, hc, h⟩ := Option.bind_eq_some_iff.mp h
    split at h
    · next hl =>
      unfold exZ exec
      cases e0 : slotZ s0 i with
      | stuck => exact or_stuck
      | ex e ds => unfold slotZ at e0; split at e0 <;> cases e0
      | ok d0 =>
        obtain ⟨c', d, e1, e2, v⟩ := R.get (slot_ok e0)
        rw [hc] at e1; cases e1
        have hf : freeAt np s i = true := free_of R (by rw [hc]; exact hl)
        rw [e2]
        dsimp only [Out.ofRes]
        rw [if_pos hf]
        have R' := R.set v.frz i
        have e3 : s0.set i (some d0) = s0 := by
          have := slot_ok e0
          apply List.ext_getElem?
          intro j
          by_cases hj : i = j
          · subst hj
            rw [List.getElem?_set_self (List.getElem?_eq_some_iff.mp this).1, this]
          · rw [List.getElem?_set_ne hj]
        rw [e3] at R'
        exact or_one (Γ := Γ) h R'
    · cases h
  | .frzc i, Γ, r, h, s0, s, R => by
    unfold aS at h
    obtain ⟨c, hc, h⟩ := Option.bind_eq_some_iff.mp h
    split at h
    · next hl =>
      unfold exZ exec
      cases e0 : slotZ s0 i with
      | stuck => exact or_stuck
      | ex e ds => unfold slotZ at e0; split at e0 <;> cases e0
      | ok d0 =>
        obtain ⟨c', d, e1, e2, v⟩ := R.get (slot_ok e0)
        rw [hc] at e1; cases e1
        dsimp only [Out.ofRes]
        split
        · next hld =>
          have hm := v.sure hl
          have he := v.e
          have e3 : ∀ x, x = d0 → s0.set i (some x) = s0 := fun x hx => by
            subst hx
            have := slot_ok e0
            apply List.ext_getElem?
            intro j
            by_cases hj : i = j
            · subst hj
              rw [List.getElem?_set_self (List.getElem?_eq_some_iff.mp this).1, this]
            · rw [List.getElem?_set_ne hj]
          rw [e2]
          cases d <;> first | (subst he; cases hld; done) | skip
          · next m ds =>
            cases hm
            have k1 : ∀ x ∈ ds, x.wm = true ∧ x.cl = true := fun x hx => by
              obtain ⟨q1, q2⟩ := wm_kid v.w (d := .lst .own ds) hx
              refine ⟨q2, ?_⟩
              unfold D.cl
              cases e : x.md <;> rw [e] at q1 <;> first | rfl | cases q1
            obtain ⟨o1, o2⟩ := own_fz k1
            have v' : Vc (Cl.own true) d0 (.lst .own (D.own2s .fz ds)) := ⟨by rw [← he]; show D.lst .fz _ = D.lst .fz _; rw [ers_own2s], o1, rfl, fun _ x hx => o2 x hx⟩
            have R' := R.set v' i
            rw [e3 d0 rfl] at R'
            exact or_one (Γ := Γ) h R'
          · next m ks ds =>
            cases hm
            have k1 : ∀ x ∈ ds, x.wm = true ∧ x.cl = true := fun x hx => by
              obtain ⟨q1, q2⟩ := wm_kid v.w (d := .dic .own ks ds) hx
              refine ⟨q2, ?_⟩
              unfold D.cl
              cases e : x.md <;> rw [e] at q1 <;> first | rfl | cases q1
            obtain ⟨o1, o2⟩ := own_fz k1
            have v' : Vc (Cl.own true) d0 (.dic .own ks (D.own2s .fz ds)) := ⟨by rw [← he]; show D.dic .fz _ _ = D.dic .fz _ _; rw [ers_own2s], o1, rfl, fun _ x hx => o2 x hx⟩
            have R' := R.set v' i
            rw [e3 d0 rfl] at R'
            exact or_one (Γ := Γ) h R'
        · exact or_stuck
    · cases h
  | .kil i, Γ, r, h, s0, s, R => by
    unfold aS at h
    split at h
    · next hl =>
      unfold exZ exec
      rw [if_pos hl]
      exact or_one (Γ := Γ) h (R.del i)
    · cases h
  | .never, Γ, r, h, s0, s, R => by
    unfold exZ
    exact or_stuck
theorem zH (H : GR A Z G) : ∀ (hs : Hd) (Γ : List Cl) (r : AO), aH A np hs Γ = some r → ∀ s0 s, SR Γ s0 s → ∀ (c : Nat) (ds : List D), (∀ d ∈ ds, Vc Cl.F d d) → ORl r (exZH Z whileV hs c ds s0) (execH G whileV np hs c ds s)
  | .nil, Γ, r, h, s0, s, R, c, ds, v => by
    unfold exZH execH
    exact ⟨s, rfl, v⟩
  | .cons hc o su hs, Γ, r, h, s0, s, R, c, ds, v => by
    unfold aH at h
    obtain ⟨x, hx, h⟩ := Option.bind_eq_some_iff.mp h
    obtain ⟨y, hy, h⟩ := Option.bind_eq_some_iff.mp h
    obtain ⟨j1, j2⟩ := join_or h
    have ih := zH H hs Γ y hy s0 s R c ds v
    have hlen : s.length = s0.length := R.len
    have hall : (ds.all fun d => decide (d.md = .fz)) = true := List.all_eq_true.mpr fun d hd => decide_eq_true ((v d hd).fz rfl).2
    unfold exZH execH
    rw [H.sub, H.xf, hall, Bool.and_true]
    split
    · split
      · split
        · cases o with
          | none =>
            have hb := zSs H su Γ x hx s0 s R
            have he : ORl x ((exZs Z whileV su s0).hend none) ((execs G whileV np su s).hend none) := by
              cases e : exZs Z whileV su s0 with
              | stuck => exact or_stuck
              | ex c ds s1 => exact or_stuck
              | nx s1 => rw [e] at hb; obtain ⟨s1', Γ1, e1, e2, R1⟩ := hb; rw [e1]; exact ⟨s1', Γ1, rfl, e2, R1⟩
              | bk s1 => rw [e] at hb; obtain ⟨s1', Γ1, e1, e2, R1⟩ := hb; rw [e1]; exact ⟨s1', Γ1, rfl, e2, R1⟩
              | ct s1 => rw [e] at hb; obtain ⟨s1', Γ1, e1, e2, R1⟩ := hb; rw [e1]; exact ⟨s1', Γ1, rfl, e2, R1⟩
              | rt d s1 => rw [e] at hb; obtain ⟨d', s1', e1, v⟩ := hb; rw [e1]; exact ⟨d', s1', rfl, v⟩
            exact j1 _ _ he
          | some i =>
            have hx : (if np ≤ i then aSs A np su (Γ.set i Cl.F) else none) = some x := hx
            split at hx
            · next hi =>
              unfold hstZ hstart
              dsimp only
              by_cases hl : i < s0.length
              · rw [if_pos hl, if_pos ⟨hi, by rw [hlen]; exact hl⟩]
                have vx : Vc Cl.F (excD G.xf c ds) (excD G.xf c ds) := by
                  have hw : ∀ d ∈ ds.reverse, d.md = .fz ∧ d.wm = true := fun d hd => ⟨((v d (List.mem_reverse.mp hd)).fz rfl).2, (v d (List.mem_reverse.mp hd)).w⟩
                  exact vc_fz (d := excD G.xf c ds) (show D.wms .fz ds.reverse = true from wms_iff.mpr fun d hd => ⟨by rw [(hw d hd).1]; rfl, (hw d hd).2⟩) rfl
                have hb := zSs H su _ x hx _ _ (R.set vx i)
                have he : ORl (AO.kil (some i) x) ((exZs Z whileV su (s0.set i (some (excD G.xf c ds)))).hend (some i)) ((execs G whileV np su (s.set i (some (excD G.xf c ds)))).hend (some i)) := by
                  cases e : exZs Z whileV su (s0.set i (some (excD G.xf c ds))) with
                  | stuck => exact or_stuck
                  | ex c ds s1 => exact or_stuck
                  | nx s1 => rw [e] at hb; obtain ⟨s1', Γ1, e1, e2, R1⟩ := hb; rw [e1]; exact ⟨s1'.set i none, Γ1.set i Cl.bot, rfl, by show x.nx.map _ = _; rw [e2]; rfl, R1.del i⟩
                  | bk s1 => rw [e] at hb; obtain ⟨s1', Γ1, e1, e2, R1⟩ := hb; rw [e1]; exact ⟨s1'.set i none, Γ1.set i Cl.bot, rfl, List.mem_map.mpr ⟨Γ1, e2, rfl⟩, R1.del i⟩
                  | ct s1 => rw [e] at hb; obtain ⟨s1', Γ1, e1, e2, R1⟩ := hb; rw [e1]; exact ⟨s1'.set i none, Γ1.set i Cl.bot, rfl, List.mem_map.mpr ⟨Γ1, e2, rfl⟩, R1.del i⟩
                  | rt d s1 => rw [e] at hb; obtain ⟨d', s1', e1, v⟩ := hb; rw [e1]; exact ⟨d', s1', rfl, v⟩
                exact j1 _ _ he
              · rw [if_neg hl]; exact or_stuck
            · cases hx
        · exact or_stuck
      · exact j2 _ _ ih
    · exact or_stuck
theorem zSs (H : GR A Z G) : ∀ (cs : List Cm) (Γ : List Cl) (r : AO), aSs A np cs Γ = some r → ∀ s0 s, SR Γ s0 s → ORl r (exZs Z whileV cs s0) (execs G whileV np cs s)
  | [], Γ, r, h, s0, s, R => by
    unfold aSs at h
    unfold exZs execs
    exact or_one (Γ := Γ) h R
  | c :: cs, Γ, r, h, s0, s, R => by
    unfold aSs at h
    obtain ⟨r1, h1, h⟩ := Option.bind_eq_some_iff.mp h
    have hh := zS H c Γ r1 h1 s0 s R
    unfold exZs execs
    split at h
    · next en =>
      cases h
      cases e : exZ Z whileV c s0 with
      | stuck => exact or_stuck
      | nx s1 => rw [e] at hh; obtain ⟨s1', Γ1, e1, e2, R1⟩ := hh; rw [en] at e2; cases e2
      | bk s1 => rw [e] at hh; obtain ⟨s1', Γ1, e1, e2, R1⟩ := hh; rw [e1]; exact ⟨s1', Γ1, rfl, e2, R1⟩
      | ct s1 => rw [e] at hh; obtain ⟨s1', Γ1, e1, e2, R1⟩ := hh; rw [e1]; exact ⟨s1', Γ1, rfl, e2, R1⟩
      | rt d s1 => rw [e] at hh; obtain ⟨d', s1', e1, v⟩ := hh; rw [e1]; exact ⟨d', s1', rfl, v⟩
      | ex k ds s1 => rw [e] at hh; obtain ⟨s1', e1, v⟩ := hh; rw [e1]; exact ⟨s1', rfl, v⟩
    · next Γ' en =>
      obtain ⟨q, hq, h⟩ := Option.bind_eq_some_iff.mp h
      obtain ⟨t, ht, h⟩ := Option.bind_eq_some_iff.mp h
      cases h
      obtain ⟨l1, l2⟩ := joinR_le ht
      cases e : exZ Z whileV c s0 with
      | stuck => exact or_stuck
      | nx s1 =>
        rw [e] at hh
        obtain ⟨s1', Γ1, e1, e2, R1⟩ := hh
        rw [en] at e2; cases e2
        rw [e1]
        exact (zSs H cs Γ' q hq s1 s1' R1).mono (fun Δ hd => ⟨Δ, hd, leG_refl Δ⟩) (fun Δ hd => List.mem_append_right _ hd) l2
      | bk s1 => rw [e] at hh; obtain ⟨s1', Γ1, e1, e2, R1⟩ := hh; rw [e1]; exact ⟨s1', Γ1, rfl, List.mem_append_left _ e2, R1⟩
      | ct s1 => rw [e] at hh; obtain ⟨s1', Γ1, e1, e2, R1⟩ := hh; rw [e1]; exact ⟨s1', Γ1, rfl, List.mem_append_left _ e2, R1⟩
      | rt d s1 => rw [e] at hh; obtain ⟨d', s1', e1, v, hc⟩ := hh; rw [e1]; exact ⟨d', s1', rfl, v.le l1, hc⟩
      | ex k ds s1 => rw [e] at hh; obtain ⟨s1', e1, v⟩ := hh; rw [e1]; exact ⟨s1', rfl, v⟩
end
end
end GS

namespace GS
open PySem PySem.Spec PyProof.Rows L2

/-! ## defs keep what was told ahead -/
def chkF (A : AG) (f : Nat) (df : Df) : Bool := match A.sg f with
  | none => true
  | some (ps, c) => decide (ps.length = df.np) && decide (df.np ≤ df.ns) && df.dfl.all scalarD && (ps.drop (df.np - df.dfl.length)).all (fun p => Cl.F.le p) &&
    (match aSs A df.np df.code (ps ++ List.replicate (df.ns - df.np) Cl.bot) with
      | none => false
      | some r => r.lp.isEmpty && r.rt.le c && (match r.nx with
          | none => true
          | some Γ => Cl.F.le c && (match ps with
            | p :: _ => !p.o || (match Γ with
              | g :: _ => g.le (A.fs f)
              | [] => false)
            | [] => true)) &&
        (match ps with
          | p :: _ => !p.o || decide (r.rt = Cl.bot)
          | [] => true))
structure AOk (A : AG) (T : TB) : Prop where
  gl : ∀ g, A.gl g = true → Vc Cl.F (T.glob g) (T.glob g)
  init : A.init = T.init
  frz : A.frz = T.frz
  ms : ∀ m p, A.ms m = some p → ∀ k f, T.meth k m = some f → A.sg f = some p
  fn : ∀ f df, T.defs f = some df → chkF A f df = true
theorem AR.len {ps : List Cl} {as0 as : List D} (h : AR ps as0 as) : as.length = as0.length := by
  induction h with
  | nil => rfl
  | cons _ _ ih => simp [ih]
theorem AR.fill : ∀ {ps : List Cl} {as0 as : List D}, AR ps as0 as → ∀ (ds : List D), ds.all scalarD = true → as.length + ds.length = ps.length → (∀ p ∈ ps.drop as.length, Cl.F.le p = true) → AR ps (as0 ++ ds) (as ++ ds)
  | ps, [], [], _, [], _, hl, _ => .nil
  | [], [], [], _, d :: ds, _, hl, _ => by simp at hl
  | p :: ps, [], [], _, d :: ds, hs, hl, hp => by
    simp only [List.all_cons, Bool.and_eq_true] at hs
    have ih := AR.fill (ps := ps) (as0 := []) (as := []) .nil ds hs.2 (by simpa using hl) (fun q hq => hp q (by simp at hq ⊢; exact .inr hq))
    exact .cons ((scal_fz hs.1).le (hp p (by simp))) ih
  | p :: ps, a0 :: as0, a :: as, h, ds, hs, hl, hp => by
    cases h with
    | cons v h => exact .cons v (AR.fill h ds hs (by simp at hl ⊢; omega) (fun q hq => hp q (by simpa using hq)))
theorem AR.sr {ps : List Cl} {as0 as : List D} (h : AR ps as0 as) : as.length = ps.length → ∀ n, SR (ps ++ List.replicate n Cl.bot) (as0.map some ++ List.replicate n none) (as.map some ++ List.replicate n none) := by
  induction h with
  | nil =>
    intro hl n
    rename_i ps
    cases ps with
    | cons _ _ => cases hl
    | nil =>
      induction n with
      | zero => exact .nil
      | succ n ih => exact .non ih
  | cons v h ih => intro hl n; exact .som v (ih (by simpa using hl) n)
theorem fz_cls {ds : List D} (h : ∀ d ∈ ds, Vc Cl.F d d) : ds.all D.cl = true := List.all_eq_true.mpr fun d hd => (h d hd).cl rfl
section
variable {A : AG} {T : TB}
theorem fn_or (O : AOk A T) {Z G : GE} (H : GR A Z G) {f : Nat} {df : Df} (hd : T.defs f = some df) {ps : List Cl} {c : Cl} (hs : A.sg f = some (ps, c)) {as0 as : List D} (h : AR ps as0 as) (hf : (fill df as0).length = df.np ∧ as0.length ≤ df.np) :
    ROR (A.fs f) c as (runDfZ Z whileV df (fill df as0)) (runDf G whileV df (fill df as)) := by
  have hc := O.fn f df hd
  unfold chkF at hc
  rw [hs] at hc
  simp only [Bool.and_eq_true, decide_eq_true_eq] at hc
  obtain ⟨⟨⟨⟨hps, hns⟩, hsc⟩, hdp⟩, hc⟩ := hc
  have hlen := h.len
  have hfill : fill df as = as ++ df.dfl.drop (df.dfl.length - (df.np - as.length)) := rfl
  have hfill0 : fill df as0 = as0 ++ df.dfl.drop (df.dfl.length - (df.np - as0.length)) := rfl
  have hl0 : as0.length + (df.dfl.drop (df.dfl.length - (df.np - as0.length))).length = df.np := by rw [← List.length_append, ← hfill0]; exact hf.1
  have h2 : AR ps (fill df as0) (fill df as) := by
    rw [hfill, hfill0, hlen]
    refine h.fill _ ?_ (by rw [hlen, hps]; exact hl0) fun p hp => ?_
    · rw [List.all_eq_true]
      intro d hd'
      exact List.all_eq_true.mp hsc d (List.mem_of_mem_drop hd')
    · have : df.np - df.dfl.length ≤ as.length := by
        rw [List.length_drop] at hl0
        omega
      have hm : p ∈ ps.drop (df.np - df.dfl.length) := by
        rw [show as.length = (df.np - df.dfl.length) + (as.length - (df.np - df.dfl.length)) by omega, ← List.drop_drop] at hp
        exact List.mem_of_mem_drop hp
      exact List.all_eq_true.mp hdp p hm
  have hlf : (fill df as).length = ps.length := by rw [h2.len, hf.1, hps]
  have hlf0 : (fill df as0).length = df.np := hf.1
  have R := h2.sr hlf (df.ns - df.np)
  cases e : aSs A df.np df.code (ps ++ List.replicate (df.ns - df.np) Cl.bot) with
  | none => rw [e] at hc; cases hc
  | some r =>
    rw [e] at hc
    simp only [Bool.and_eq_true] at hc
    obtain ⟨⟨⟨q1, q2⟩, q3⟩, q4⟩ := hc
    have hh := zSs H df.code _ r e _ _ R
    have s0e : startS df (fill df as0) = (fill df as0).map some ++ List.replicate (df.ns - df.np) none := by unfold startS; rw [hlf0]
    have se : startS df (fill df as) = (fill df as).map some ++ List.replicate (df.ns - df.np) none := by unfold startS; rw [hlf, hps]
    unfold runDfZ runDf
    rw [s0e, se]
    cases e0 : exZs Z whileV df.code ((fill df as0).map some ++ List.replicate (df.ns - df.np) none) with
    | stuck => trivial
    | nx s1 =>
      rw [e0] at hh
      obtain ⟨s1', Γ, e1, e2, R1⟩ := hh
      rw [e2] at q3
      dsimp only at q3
      rw [Bool.and_eq_true] at q3
      rw [e1]
      refine ⟨.non, _, rfl, vc_non.le q3.1, fun ⟨a, t, ea, ho⟩ x0 t0 ex => ?_⟩
      subst ea
      cases h with
      | cons v h =>
        have hpo := v.h.1
        rw [ho] at hpo
        have q5 := q3.2
        dsimp only at q5
        rw [show Cl.o _ = true from hpo] at q5
        subst ex
        cases R1 with
        | som v1 R1 =>
          dsimp only at q5
          rename_i d1 _ s9
          rw [hfill]
          refine ⟨d1, finsOf (t ++ df.dfl.drop (df.dfl.length - (df.np - (a :: t).length))) s9, ?_, v1.le (by simpa using q5)⟩
          show (if a.md = .own then some d1 else none) :: finsOf (t ++ _) s9 = _
          rw [if_pos ho]
    | rt d s1 =>
      rw [e0] at hh
      obtain ⟨d', s1', e1, v, _⟩ := hh
      rw [e1]
      refine ⟨d', _, rfl, v.le q2, fun ⟨a, t, ea, ho⟩ x0 t0 ex => ?_⟩
      subst ea
      cases h with
      | cons v1 h =>
        have hpo := v1.h.1
        rw [ho] at hpo
        dsimp only at q4
        rw [show Cl.o _ = true from hpo] at q4
        simp only [Bool.not_true, Bool.false_or, decide_eq_true_eq] at q4
        rw [q4] at v
        exact absurd v vc_bot
    | ex k ds s1 =>
      rw [e0] at hh
      obtain ⟨s1', e1, v⟩ := hh
      rw [e1]
      refine ⟨[], ?_, v⟩
      show (if ds.all D.cl = true then _ else _) = _
      rw [if_pos (fz_cls v)]
    | bk s1 => trivial
    | ct s1 => trivial
theorem lev_or (O : AOk A T) : ∀ k, (∀ f ps c, A.sg f = some (ps, c) → ∀ as0 as, AR ps as0 as → ROR (A.fs f) c as ((runZ T whileV k).1 f as0) ((runs T whileV k).1 f as)) ∧ ∀ f ps c, A.sg f = some (ps, c) → ∀ as0 as, AR ps as0 as → ROR (A.fs f) c as ((runZ T whileV k).2 f as0) ((runs T whileV k).2 f as)
  | 0 => ⟨fun _ _ _ _ _ _ _ => trivial, fun _ _ _ _ _ _ _ => trivial⟩
  | k + 1 => by
    obtain ⟨i1, i2⟩ := lev_or O k
    refine ⟨fun f ps c hs as0 as h => ?_, i1⟩
    have H : GR A (GEof T k (runZ T whileV k)) (GEof T k (runs T whileV k)) := ⟨fun g hg => ⟨rfl, O.gl g hg⟩, rfl, O.frz, rfl, rfl, O.init, rfl, rfl, i1, i2, O.ms⟩
    show ROR _ _ _ (match T.defs f with
      | some df => if (fill df as0).length = df.np ∧ as0.length ≤ df.np then runDfZ (GEof T k (runZ T whileV k)) whileV df (fill df as0) else .stuck
      | none => .stuck) (match T.defs f with
      | some df => if (fill df as).length = df.np ∧ as.length ≤ df.np then runDf (GEof T k (runs T whileV k)) whileV df (fill df as) else .stuck
      | none => .stuck)
    cases hd : T.defs f with
    | none => trivial
    | some df =>
      dsimp only
      split
      · next hf =>
        have hl : (fill df as).length = (fill df as0).length := by unfold fill; rw [List.length_append, List.length_append, h.len]
        rw [if_pos (by rw [hl, h.len]; exact hf)]
        exact fn_or O H hd hs h hf
      · trivial
end
/-! ## a law's table -/
def TC.ag (t : TC) (L : List (List Cl × Cl × Cl)) : AG := ⟨fun f => (L[f]?).map fun x => (x.1, x.2.1), fun m => ((t.meth.find? fun q => decide (q.2.1 = m)).bind fun q => L[q.2.2]?).map fun x => (x.1, x.2.1), fun f => ((L[f]?).map (·.2.2)).getD Cl.bot, fun g => scalarD (t.T.glob g), t.T.init, t.T.frz⟩
def TC.agF (t : TC) (L : List (List Cl × Cl × Cl)) (f : Nat) : Bool := match t.dfs[f]? with
  | some df => chkF (t.ag L) f df
  | none => true
def TC.agM (t : TC) (L : List (List Cl × Cl × Cl)) : Bool := t.meth.all fun q => decide (((t.ag L).ms q.2.1) = (t.ag L).sg q.2.2)
theorem ag_ok (t : TC) (L : List (List Cl × Cl × Cl)) (h1 : ∀ f, f < t.dfs.length → t.agF L f = true) (h2 : t.agM L = true) : AOk (t.ag L) t.T := by
  refine ⟨fun g hg => scal_fz hg, rfl, rfl, fun m p hm k f hf => ?_, fun f df hd => ?_⟩
  · have hf : (t.meth.find? fun q => decide (q.1 = k) && decide (q.2.1 = m)).map (·.2.2) = some f := hf
    cases e : t.meth.find? fun q => decide (q.1 = k) && decide (q.2.1 = m) with
    | none => rw [e] at hf; cases hf
    | some q =>
      rw [e] at hf
      cases hf
      have hq := List.find?_some e
      simp only [Bool.and_eq_true, decide_eq_true_eq] at hq
      have := List.all_eq_true.mp h2 q (List.mem_of_find?_eq_some e)
      rw [decide_eq_true_eq, hq.2, hm] at this
      exact this.symm
  · have hd : t.dfs[f]? = some df := hd
    have hlt := (List.getElem?_eq_some_iff.mp hd).1
    have := h1 f hlt
    unfold TC.agF at this
    rw [hd] at this
    exact this
def clB1 : Cl := ⟨false, false, true, true, true⟩
/-- the script, without modes -/
def scrZ (ns : List Int) : D := .lst .fz (ns.map .int)
theorem law_ofZ {t : TC} {L : List (List Cl × Cl × Cl)} {k lw : Nat} {c fsl : Cl} (h1 : ∀ f, f < t.dfs.length → t.agF L f = true) (h2 : t.agM L = true) (hs : L[lw]? = some ([clB1], c, fsl)) {ns : List Int}
    (h : ((runZ t.T whileV k).1 lw [scrZ ns]).val = .ok (.bl true)) : ((runs t.T whileV k).1 lw [scriptD ns]).val = .ok (.bl true) := by
  have O := ag_ok t L h1 h2
  have hv : Vc clB1 (scrZ ns) (scriptD ns) := by
    have hk : ∀ x ∈ ns.map D.int, x.md = .fz ∧ x.wm = true := fun x hx => by
      obtain ⟨i, _, rfl⟩ := List.mem_map.mp hx
      exact ⟨rfl, rfl⟩
    refine ⟨?_, ?_, rfl, fun _ x hx => (hk x hx).1⟩
    · show D.lst .fz (D.ers _) = _
      rw [ers_map, List.map_map]; rfl
    · show D.wms .br _ = true
      exact wms_iff.mpr fun x hx => ⟨by rw [(hk x hx).1]; rfl, (hk x hx).2⟩
  have := ((lev_or O k).1 lw [clB1] c (by show (L[lw]?).map _ = _; rw [hs]; rfl) [scrZ ns] [scriptD ns] (.cons hv .nil)).val
  rw [h] at this
  obtain ⟨b, e, v⟩ := this
  rw [e]
  have := v.e
  cases b <;> first | (cases this; done) | skip
  have h3 : D.bl _ = D.bl true := this
  cases h3
  rfl
end GS

namespace GS
open PySem PySem.Spec PyProof.Rows L2

/-! ## fractions in lowest terms -/
theorem fmod_nn (a : Int) {b : Int} (h : 0 ≤ b) : a.fmod b = a % b := Int.fmod_eq_emod_of_nonneg _ h
theorem fdiv_nn (a : Int) {b : Int} (h : 0 ≤ b) : a.fdiv b = a / b := Int.fdiv_eq_ediv_of_nonneg _ h
theorem natAbs_if (a : Int) : (if a < 0 then -a else a) = (a.natAbs : Int) := by split <;> omega
def dfDiv : Df := ⟨2, 3, [.set 0 (.blt .abs [.var 0]),
  .set 1 (.blt .abs [.var 1]),
  .whl (.cmp .ne (.var 1) (.cst (.int 0))) [.set 2 (.op .mod (.var 0) (.var 1)), .set 0 (.var 1), .set 1 (.var 2)],
  .ret (.var 0)], []⟩
def dfDivG : Df := ⟨2, 3, [.set 0 (.blt .abs [.var 0]),
  .set 1 (.blt .abs [.var 1]),
  .whl (.cmp .gt (.var 1) (.cst (.int 0))) [.set 2 (.op .mod (.var 0) (.var 1)), .set 0 (.var 1), .set 1 (.var 2)],
  .ret (.var 0)], []⟩
def dfCell : Df := ⟨2, 2, [.ite (.cmp .lt (.var 1) (.blt .len [.var 0])) [.ret (.ix (.var 0) (.var 1))] [],
  .ret (.cst (.int 0))], []⟩
def dfWhole : Df := ⟨1, 1, [.ret (.and [.isi (.var 0) .int, .not (.isi (.var 0) .bool)])], []⟩
section
variable {T : TB}
theorem gcd_loop {G : GE} {t : Tm} (ht : ∀ (x y : Nat) (o : Option D), (evalE G t (viewS [some (.int x), some (.int y), o])).bind vTru = .ok (decide (y ≠ 0))) : ∀ (n x y : Nat) (o : Option D), y ≤ n → ∃ o', whileV (fun s => toStep s ((evalE G t (viewS s)).bind vTru) (fun s => execs G whileV 2 [.set 2 (.op .mod (.var 0) (.var 1)), .set 0 (.var 1), .set 1 (.var 2)] s)) [some (.int x), some (.int y), o] = .nx [some (.int (Nat.gcd x y)), some (.int 0), o'] := by
  intro n
  induction n with
  | zero =>
    intro x y o h
    have : y = 0 := by omega
    subst this
    refine ⟨o, ?_⟩
    rw [whileV_stop (o := .nx [some (.int x), some (.int (0 : Nat)), o])]
    · simp
    · rw [ht]; simp [toStep]
  | succ n ih =>
    intro x y o h
    by_cases h0 : y = 0
    · subst h0
      refine ⟨o, ?_⟩
      rw [whileV_stop (o := .nx [some (.int x), some (.int (0 : Nat)), o])]
      · simp
      · rw [ht]; simp [toStep]
    · have hm : Int.fmod (x : Int) (y : Int) = ((x % y : Nat) : Int) := by
        rw [fmod_nn _ (by omega)]; rfl
      have hy : (y : Int) ≠ 0 := by omega
      rw [whileV_step (s' := [some (.int y), some (.int ((x % y : Nat) : Int)), some (.int ((x % y : Nat) : Int))])]
      · obtain ⟨o', h'⟩ := ih y (x % y) (some (.int ((x % y : Nat) : Int))) (by have := Nat.mod_lt x (Nat.pos_of_ne_zero h0); omega)
        refine ⟨o', ?_⟩
        rw [h', Nat.gcd_comm x y, Nat.gcd_rec y x, Nat.gcd_comm (x % y) y]
      · rw [ht]; simp [view_c, toStep, h0, b_mod hy, hm, setS, freeAt]
theorem div_run {dv k : Nat} (hd : T.defs dv = some dfDiv) (a b : Int) : ((runs T whileV (k + 1)).1 dv [.int a, .int b]).val = .ok (.int (Int.gcd a b)) := by
  rw [call_eq (df := dfDiv) hd rfl rfl]
  obtain ⟨o', h⟩ := gcd_loop (G := GEof T k (runs T whileV k)) (t := .cmp .ne (.var 1) (.cst (.int 0))) (fun x y o => by simp [view_c]) b.natAbs a.natAbs b.natAbs none (Nat.le_refl _)
  simp only [dfDiv, startS, run_eq, x_cons, x_nil, x_ret]
  simp [-x_whl, -e_cmp, natAbs_if, setS, freeAt]
  rw [x_whl, h]
  simp
  rfl
theorem divG_run {dv k : Nat} (hd : T.defs dv = some dfDivG) (a b : Int) : ((runs T whileV (k + 1)).1 dv [.int a, .int b]).val = .ok (.int (Int.gcd a b)) := by
  rw [call_eq (df := dfDivG) hd rfl rfl]
  obtain ⟨o', h⟩ := gcd_loop (G := GEof T k (runs T whileV k)) (t := .cmp .gt (.var 1) (.cst (.int 0))) (fun x y o => by simp [view_c, Nat.pos_iff_ne_zero]) b.natAbs a.natAbs b.natAbs none (Nat.le_refl _)
  simp only [dfDivG, startS, run_eq, x_cons, x_nil, x_ret]
  simp [-x_whl, -e_cmp, natAbs_if, setS, freeAt]
  rw [x_whl, h]
  simp
  rfl
theorem cell_run {f k : Nat} (hd : T.defs f = some dfCell) (ns : List Int) (j : Nat) : ((runs T whileV (k + 1)).1 f [scriptD ns, .int j]).val = .ok (.int (ns.getD j 0)) := by
  rw [call_eq (df := dfCell) hd rfl rfl]
  by_cases h : j < ns.length
  · simp [dfCell, startS, scriptD, h, atI_ints h]
  · simp [dfCell, startS, scriptD, h]
theorem whole_run {f k : Nat} (hd : T.defs f = some dfWhole) (c : Int) : ((runs T whileV (k + 1)).1 f [.int c]).val = .ok (.bl true) := by
  rw [call_eq (df := dfWhole) hd rfl rfl]
  simp [dfWhole, startS, vIsi, D.ty, isiN]
end

/-! ### Fraction(..) -/
def dfInit (dv ft fb : Nat) : Df := ⟨3, 4, [.ite (.cmp .eq (.var 2) (.cst (.int 0))) [.never] [],
  .set 3 (.cal dv [.var 1, .var 2]),
  .frz 3,
  .ite (.cmp .lt (.var 2) (.cst (.int 0))) [.set 3 (.op .sub (.cst (.int 0)) (.var 3))] [],
  .fput true 0 [] ft (.op .fdiv (.var 1) (.var 3)),
  .fput true 0 [] fb (.op .fdiv (.var 2) (.var 3))], [.int 1]⟩
/-- the fraction a / b as it is laid: fields top (ft), bottom (fb) -/
def frD (c ft fb : Nat) (q : Rat) : D := .ins .fz c [ft, fb] [.int q.num, .int q.den]
section
variable {G : GE} {W : (Sl → Sl ⊕ Out) → Sl → Out} {np : Nat} {s : Sl}
@[simp] theorem x_frz {i : Nat} : exec G W np (.frz i) s = Out.ofRes s (Res.ofOpt (s[i]?).join) fun d => if freeAt np s i = true then .nx (s.set i (some (d.own2 .fz))) else .stuck := by
  rw [exec]
  cases s[i]? with
  | none => rfl
  | some o => cases o <;> rfl
@[simp] theorem x_never : exec G W np .never s = .stuck := by rw [exec]
@[simp] theorem x_fput0 {o : Bool} {i f : Nat} {t : Tm} : exec G W np (.fput o i [] f t) s = Out.ofRes s (evalE G t (viewS s)) fun y => if y.cl = true then atSlot i [] (gFput G.fok f (kept o y)) s else .stuck := by
  rw [exec]
  simp [evalSt]
end
theorem num_of (t b : Int) (hb : b ≠ 0) : (Rat.divInt t b).num = t.fdiv (if b < 0 then 0 - (Int.gcd t b : Int) else (Int.gcd t b : Int)) ∧ ((Rat.divInt t b).den : Int) = b.fdiv (if b < 0 then 0 - (Int.gcd t b : Int) else (Int.gcd t b : Int)) := by
  have hg : 0 < (Int.gcd t b : Int) := by
    have : Int.gcd t b ≠ 0 := by rw [Ne, Int.gcd_eq_zero_iff]; omega
    omega
  have d1 : (Int.gcd t b : Int) ∣ t := Int.gcd_dvd_left ..
  have d2 : (Int.gcd t b : Int) ∣ b := Int.gcd_dvd_right ..
  have en := Rat.num_divInt t b
  have ed := Rat.den_divInt t b
  rw [Int.gcd_comm] at en
  rw [if_neg hb, Int.gcd_comm] at ed
  rw [en, ed]
  generalize hgg : Int.gcd t b = g at *
  by_cases h : b < 0
  · rw [if_pos h, Int.zero_sub, Int.fdiv_neg (by omega), Int.fdiv_neg (by omega), if_pos d1, if_pos d2, fdiv_nn _ (by omega), fdiv_nn _ (by omega), Int.sign_eq_neg_one_of_neg h]
    refine ⟨by rw [Int.neg_mul, Int.one_mul, Int.neg_ediv_of_dvd d1], ?_⟩
    rw [← Int.neg_ediv_of_dvd d2, Int.natCast_ediv]
    congr 1
    omega
  · rw [if_neg h, fdiv_nn _ (by omega), fdiv_nn _ (by omega), Int.sign_eq_one_of_pos (by omega), Int.one_mul]
    refine ⟨rfl, ?_⟩
    rw [Int.natCast_ediv]
    congr 1
    omega
theorem call_fill {T : TB} {k f : Nat} {df : Df} {as : List D} (h : T.defs f = some df) (hl : (fill df as).length = df.np) (h2 : as.length ≤ df.np) : (runs T whileV (k + 1)).1 f as = runDf (GEof T k (runs T whileV k)) whileV df (fill df as) := by
  show (match T.defs f with
      | some df => if (fill df as).length = df.np ∧ as.length ≤ df.np then runDf (GEof T k (runs T whileV k)) whileV df (fill df as) else .stuck
      | none => .stuck) = _
  rw [h]
  dsimp only
  rw [if_pos ⟨hl, h2⟩]
theorem log2_lt {i : Int} {k : Nat} (h : i.natAbs < 2 ^ k) (h0 : 0 < k) : i.natAbs.log2 < k := by
  by_cases z : i.natAbs = 0
  · rw [z]; simpa using h0
  · exact (Nat.log2_lt z).mpr h
theorem init_run {T : TB} {c dv ft fb k : Nat} (hdv : T.defs dv = some dfDiv) (hok1 : T.fok c ft = true) (hok2 : T.fok c fb = true) (hne : ft ≠ fb) (t b : Int) (hb : b ≠ 0) (hs : b.natAbs < 2 ^ 8000) :
    (runDf (GEof T (k + 1) (runs T whileV (k + 1))) whileV (dfInit dv ft fb) [.ins .own c [] [], .int t, .int b]).made true = .ok (frD c ft fb (Rat.divInt t b)) := by
  have hg := div_run (k := k) hdv t b
  obtain ⟨e1, e2⟩ := num_of t b hb
  have hgl : (Int.gcd t b : Int).natAbs < 2 ^ 8000 := by
    have h1 : Int.gcd t b ≤ b.natAbs := by
      have := Nat.gcd_le_right t.natAbs (show 0 < b.natAbs by omega)
      exact this
    have h2 : ((Int.gcd t b : Nat) : Int).natAbs = Int.gcd t b := Int.natAbs_natCast _
    omega
  have hg0 : (Int.gcd t b : Int) ≠ 0 := by
    have : Int.gcd t b ≠ 0 := by rw [Ne, Int.gcd_eq_zero_iff]; omega
    omega
  have dv1 : ∀ i : Int, vBop .fdiv (.int i) (.int (Int.gcd t b : Int)) = .ok (.int (i.fdiv (Int.gcd t b : Int))) := fun i => by
    show Res.guard (divOk _) _ = _
    have : divOk (Int.gcd t b : Int) = true := by
      unfold divOk
      have := log2_lt hgl (by omega)
      simp only [Bool.and_eq_true, decide_eq_true_eq]
      exact ⟨hg0, by omega⟩
    rw [this]; rfl
  have dv2 : ∀ i : Int, vBop .fdiv (.int i) (.int (0 - (Int.gcd t b : Int))) = .ok (.int (i.fdiv (0 - (Int.gcd t b : Int)))) := fun i => by
    show Res.guard (divOk _) _ = _
    have : divOk (0 - (Int.gcd t b : Int)) = true := by
      unfold divOk
      have : (0 - (Int.gcd t b : Int)).natAbs = (Int.gcd t b : Int).natAbs := by omega
      rw [this]
      have := log2_lt hgl (by omega)
      simp only [Bool.and_eq_true, decide_eq_true_eq]
      exact ⟨by omega, by omega⟩
    rw [this]; rfl
  have hok1' : (GEof T (k + 1) (runs T whileV (k + 1))).fok c ft = true := hok1
  have hok2' : (GEof T (k + 1) (runs T whileV (k + 1))).fok c fb = true := hok2
  by_cases h : b < 0
  · rw [if_pos h] at e1 e2
    simp [dfInit, startS, hb, h, hg, setS, freeAt, view_c, atSlot, updAt, gFput, hok1', hok2', kept, hne, dv2, -b_fdiv, -Int.zero_sub, D.md]
    rw [if_neg (Ne.symm hne)]
    show Res.ok _ = _
    unfold frD
    rw [e1, e2]
    rfl
  · rw [if_neg h] at e1 e2
    simp [dfInit, startS, hb, h, hg, setS, freeAt, view_c, atSlot, updAt, gFput, hok1', hok2', kept, hne, dv1, -b_fdiv, D.md]
    rw [if_neg (Ne.symm hne)]
    show Res.ok _ = _
    unfold frD
    rw [e1, e2]
    rfl
/-- Fraction(t, b), Fraction(t) -/
theorem mak_run {T : TB} {c fi dv ft fb k : Nat} (hdv : T.defs dv = some dfDiv) (hin : T.defs fi = some (dfInit dv ft fb)) (hok1 : T.fok c ft = true) (hok2 : T.fok c fb = true) (hne : ft ≠ fb) (t b : Int) (hb : b ≠ 0) (hs : b.natAbs < 2 ^ 8000) :
    ((runs T whileV (k + 2)).1 fi [.ins .own c [] [], .int t, .int b]).made true = .ok (frD c ft fb (Rat.divInt t b)) := by
  rw [call_fill (df := dfInit dv ft fb) (as := [.ins .own c [] [], .int t, .int b]) hin rfl (Nat.le_refl 3)]
  exact init_run hdv hok1 hok2 hne t b hb hs
theorem mak_run1 {T : TB} {c fi dv ft fb k : Nat} (hdv : T.defs dv = some dfDiv) (hin : T.defs fi = some (dfInit dv ft fb)) (hok1 : T.fok c ft = true) (hok2 : T.fok c fb = true) (hne : ft ≠ fb) (t : Int) :
    ((runs T whileV (k + 2)).1 fi [.ins .own c [] [], .int t]).made true = .ok (frD c ft fb (Rat.divInt t 1)) := by
  rw [call_fill (df := dfInit dv ft fb) (as := [.ins .own c [] [], .int t]) hin rfl (show 2 ≤ 3 by omega)]
  exact init_run hdv hok1 hok2 hne t 1 (by decide) (Nat.one_lt_two_pow (by omega))
end GS

namespace GS
open PySem PySem.Spec PyProof.Rows L2

/-! # running the small syntax without modes -/
noncomputable def ZG (T : TB) (k : Nat) : GE := GEof T k (runZ T whileV k)
/-- a list may have so many -/
def okLen (n : Nat) : Bool := decide (n ≤ sizeLine)
def okLt (n : Nat) : Bool := decide (n < sizeLine)
theorem line_le {n : Nat} (h : n ≤ 16777216) : okLen n = true := decide_eq_true (by unfold sizeLine; omega)
theorem line_lt {n : Nat} (h : n < 16777216) : okLt n = true := decide_eq_true (by unfold sizeLine; omega)
/-- a def, called -/
noncomputable def cl (T : TB) (k f : Nat) (as : List D) : Res D := ((runZ T whileV k).1 f as).val
/-- a class, called -/
noncomputable def mkZ (T : TB) (k c : Nat) (as : List D) : Res D := match T.init c with
  | some f => ((runZ T whileV k).2 f (.ins .fz c [] [] :: as)).madeZ
  | none => .stuck
/-- a method, called -/
noncomputable def mt (T : TB) (k : Nat) (x : D) (m : Nat) (as : Res (List D)) : Res D := match x with
  | .ins _ c fs _ => match T.meth c m with
    | some f => Res.guard (!(fs.any fun g => decide (g = m))) <| as.bind fun ds => cl T k f (x :: ds)
    | none => .stuck
  | _ => .stuck
/-- how a body ends -/
def fin (o : Out) : Res D := o.toRZ.val
@[simp] theorem fin_nx (s : Sl) : fin (.nx s) = .ok .non := Eq.trans rfl rfl
@[simp] theorem fin_rt (d : D) (s : Sl) : fin (.rt d s) = .ok d := Eq.trans rfl rfl
@[simp] theorem fin_ex (c : Nat) (ds : List D) (s : Sl) : fin (.ex c ds s) = .ex c ds := Eq.trans rfl rfl
@[simp] theorem fin_stuck : fin .stuck = .stuck := Eq.trans rfl rfl
class Lib (T : TB) (x : Nat → Nat) (g : Nat) (p : (Nat → Nat) → Df) : Prop where
  eq : T.defs (x g) = some (p x)
abbrev L (xs : List D) : D := .lst .fz xs
abbrev Tp (xs : List D) : D := .tup .fz xs
section
variable {T : TB} {k : Nat} {s : Sl}
theorem cl_eq {f : Nat} {df : Df} {as : List D} (h : T.defs f = some df) (hl : as.length = df.np) (hd : df.dfl = []) : cl T (k + 1) f as = fin (exZs (ZG T k) whileV df.code (as.map some ++ List.replicate (df.ns - df.np) none)) := by
  unfold cl
  show (match T.defs f with
      | some df => if (fill df as).length = df.np ∧ as.length ≤ df.np then runDfZ (GEof T k (runZ T whileV k)) whileV df (fill df as) else .stuck
      | none => .stuck : RO).val = _
  rw [h]
  have e : fill df as = as := by unfold fill; rw [hd]; simp
  dsimp only
  rw [e, if_pos ⟨hl, Nat.le_of_eq hl⟩]
  unfold runDfZ startS
  rw [hl]
  rfl
theorem cl_eqD {f : Nat} {df : Df} {as : List D} (h : T.defs f = some df) (hl : (fill df as).length = df.np) (h2 : as.length ≤ df.np) : cl T (k + 1) f as = fin (exZs (ZG T k) whileV df.code ((fill df as).map some ++ List.replicate (df.ns - df.np) none)) := by
  unfold cl
  show (match T.defs f with
      | some df => if (fill df as).length = df.np ∧ as.length ≤ df.np then runDfZ (GEof T k (runZ T whileV k)) whileV df (fill df as) else .stuck
      | none => .stuck : RO).val = _
  rw [h]
  dsimp only
  rw [if_pos ⟨hl, h2⟩]
  unfold runDfZ startS
  rw [hl]
  rfl
theorem mk_eq {c f : Nat} {df : Df} {as : List D} (hi : T.init c = some f) (h : T.defs f = some df) (hl : (fill df (.ins .fz c [] [] :: as)).length = df.np) (h2 : as.length + 1 ≤ df.np) :
    mkZ T (k + 2) c as = ((exZs (ZG T k) whileV df.code ((fill df (.ins .fz c [] [] :: as)).map some ++ List.replicate (df.ns - df.np) none)).toRZ).madeZ := by
  unfold mkZ
  rw [hi]
  dsimp only
  show (match T.defs f with
      | some df => if (fill df (.ins .fz c [] [] :: as)).length = df.np ∧ (.ins .fz c [] [] :: as).length ≤ df.np then runDfZ (GEof T k (runZ T whileV k)) whileV df (fill df (.ins .fz c [] [] :: as)) else .stuck
      | none => .stuck : RO).madeZ = _
  rw [h]
  dsimp only
  rw [if_pos ⟨hl, h2⟩]
  unfold runDfZ startS
  rw [hl]
  rfl
/-! expressions -/
variable {W : (Sl → Sl ⊕ Out) → Sl → Out}
@[simp] theorem z_cst {G : GE} {d : D} : evZ G (.cst d) s = .ok d := by rw [evZ]
@[simp] theorem z_var {G : GE} {i : Nat} : evZ G (.var i) s = slotZ s i := by rw [evZ]; rfl
@[simp] theorem z_glb {g : Nat} : evZ (ZG T k) (.glb g) s = .ok (T.glob g) := by rw [evZ]; rfl
@[simp] theorem z_op {G : GE} {o : Bop} {a b : Tm} : evZ G (.op o a b) s = (evZ G a s).bind fun x => (evZ G b s).bind fun y => vBopZ o x y := by rw [evZ]
@[simp] theorem z_neg {G : GE} {a : Tm} : evZ G (.neg a) s = (evZ G a s).bind vNeg := by rw [evZ]
@[simp] theorem z_cmp {G : GE} {o : Cop} {a b : Tm} : evZ G (.cmp o a b) s = (evZ G a s).bind fun x => (evZ G b s).bind fun y => (vCop o x y).bind fun r => .ok (.bl r) := by rw [evZ]
@[simp] theorem z_chn {G : GE} {o o' : Cop} {a b c : Tm} : evZ G (.chn o o' a b c) s = (evZ G a s).bind fun x => (evZ G b s).bind fun y => (vCop o x y).bind fun r =>
      if r = true then (evZ G c s).bind fun z => (vCop o' y z).bind fun r => .ok (.bl r) else .ok (.bl false) := by rw [evZ]
@[simp] theorem z_and {G : GE} {es : List Tm} : evZ G (.and es) s = (evZAnd G es s).bind fun b => .ok (.bl b) := by rw [evZ]
@[simp] theorem z_or {G : GE} {es : List Tm} : evZ G (.or es) s = (evZOr G es s).bind fun b => .ok (.bl b) := by rw [evZ]
@[simp] theorem z_not {G : GE} {a : Tm} : evZ G (.not a) s = (evZ G a s).bind fun x => (vBl x).bind fun b => .ok (.bl (!b)) := by rw [evZ]
@[simp] theorem z_ife {G : GE} {c a b : Tm} : evZ G (.ife c a b) s = (evZ G c s).bind fun x => (vTru x).bind fun r => if r = true then evZ G a s else evZ G b s := by rw [evZ]
@[simp] theorem z_fld {a : Tm} {f : Nat} : evZ (ZG T k) (.fld a f) s = (evZ (ZG T k) a s).bind (vFld T.fok f) := by rw [evZ]; rfl
@[simp] theorem z_ix {G : GE} {a b : Tm} : evZ G (.ix a b) s = (evZ G a s).bind fun x => (evZ G b s).bind fun y => vIx x y := by rw [evZ]
@[simp] theorem z_slc {G : GE} {a : Tm} {lo hi : Option Tm} : evZ G (.slc a lo hi) s = (evZ G a s).bind fun x => (evZO G lo s).bind fun l => (evZO G hi s).bind fun h => vSlcZ x l h := by rw [evZ]
@[simp] theorem z_lst {G : GE} {es : List Tm} : evZ G (.lst es) s = (evZL G es s).bind fun ds => Res.guard (okLen ds.length) (.ok (.lst .fz ds)) := by rw [evZ]; rfl
@[simp] theorem z_tup {G : GE} {es : List Tm} : evZ G (.tup es) s = (evZL G es s).bind fun ds => Res.guard (okLen ds.length) (.ok (.tup .fz ds)) := by rw [evZ]; rfl
@[simp] theorem z_dct {G : GE} : evZ G (.dct [] []) s = .ok (.dic .fz [] []) := by rw [evZ, evZL]; rfl
@[simp] theorem z_cal {f : Nat} {es : List Tm} : evZ (ZG T k) (.cal f es) s = (evZL (ZG T k) es s).bind (cl T k f) := by rw [evZ]; rfl
@[simp] theorem z_mak {c : Nat} {es : List Tm} : evZ (ZG T k) (.mak c es) s = (evZL (ZG T k) es s).bind (mkZ T k c) := by rw [evZ]; rfl
@[simp] theorem z_met {a : Tm} {m : Nat} {es : List Tm} : evZ (ZG T k) (.met a m es) s = (evZ (ZG T k) a s).bind fun x => mt T k x m (evZL (ZG T k) es s) := by rw [evZ]; rfl
@[simp] theorem z_blt {G : GE} {b : Blt} {es : List Tm} : evZ G (.blt b es) s = (evZL G es s).bind fun ds => vBltZ b ds := by rw [evZ]
@[simp] theorem z_bmt {G : GE} {b : Bmt} {a : Tm} {es : List Tm} : evZ G (.bmt b a es) s = (evZ G a s).bind fun x => Res.guard (bmtR b x) ((evZL G es s).bind fun ds => vBmtZ b x ds) := by rw [evZ]
@[simp] theorem z_isi {a : Tm} {q : Isi} : evZ (ZG T k) (.isi a q) s = (evZ (ZG T k) a s).bind fun x => (vIsi T.sub q x).bind fun r => .ok (.bl r) := by rw [evZ]; rfl
theorem z_cmpr {G : GE} {elt : Tm} {tg : Tg} {it : Itr} {ifs : List Tm} : evZ G (.cmpr elt tg it ifs) s = (evZI G it s).bind fun ds =>
      (compZ (fun d => bindT tg d (wipeS s (tgNames tg))) (fun s' => (evZIf G ifs s').noEx) (fun s' => (evZ G elt s').noEx) ds).bind fun ys => Res.guard (okLen ys.length) (.ok (.lst .fz ys)) := by rw [evZ]; rfl
@[simp] theorem zl_nil {G : GE} : evZL G [] s = .ok [] := by rw [evZL]
@[simp] theorem zl_cons {G : GE} {t : Tm} {ts : List Tm} : evZL G (t :: ts) s = (evZ G t s).bind fun d => (evZL G ts s).bind fun ds => .ok (d :: ds) := by rw [evZL]
@[simp] theorem zo_none {G : GE} : evZO G none s = .ok none := by rw [evZO]
@[simp] theorem zo_some {G : GE} {t : Tm} : evZO G (some t) s = (evZ G t s).bind fun d => (vInt d).bind fun i => .ok (some i) := by rw [evZO]
@[simp] theorem za_nil {G : GE} : evZAnd G [] s = .ok true := by rw [evZAnd]
@[simp] theorem za_cons {G : GE} {t : Tm} {ts : List Tm} : evZAnd G (t :: ts) s = (evZ G t s).bind fun d => (vBl d).bind fun b => if b = true then evZAnd G ts s else .ok false := by rw [evZAnd]
@[simp] theorem zr_nil {G : GE} : evZOr G [] s = .ok false := by rw [evZOr]
@[simp] theorem zr_cons {G : GE} {t : Tm} {ts : List Tm} : evZOr G (t :: ts) s = (evZ G t s).bind fun d => (vBl d).bind fun b => if b = true then .ok true else evZOr G ts s := by rw [evZOr]
@[simp] theorem zf_nil {G : GE} : evZIf G [] s = .ok true := by rw [evZIf]
@[simp] theorem zf_cons {G : GE} {t : Tm} {ts : List Tm} : evZIf G (t :: ts) s = (evZ G t s).bind fun d => (vTru d).bind fun b => if b = true then evZIf G ts s else .ok false := by rw [evZIf]
@[simp] theorem zi_seq {G : GE} {a : Tm} : evZI G (.seq a) s = (evZ G a s).bind vSeqZ := by rw [evZI]
theorem zi_rng1 {G : GE} {a : Tm} : evZI G (.rng1 a) s = (evZ G a s).bind fun x => (vInt x).bind fun n => Res.guard (small62 n) (.ok (rangeD 0 n.toNat)) := by rw [evZI]
theorem zi_rng2 {G : GE} {a b : Tm} : evZI G (.rng2 a b) s = (evZ G a s).bind fun x => (vInt x).bind fun m => (evZ G b s).bind fun y => (vInt y).bind fun n => Res.guard (small62 m && small62 n) (.ok (rangeD m (n - m).toNat)) := by rw [evZI]
@[simp] theorem zi_enm {G : GE} {a : Tm} : evZI G (.enm a) s = (evZ G a s).bind fun x => (vLstZ x).bind fun ds => .ok (enumsZ 0 ds) := by rw [evZI]
@[simp] theorem zi_zip {G : GE} {a b : Tm} : evZI G (.zip a b) s = (evZ G a s).bind fun x => (evZ G b s).bind fun y => (vLstZ x).bind fun xs => (vLstZ y).bind fun ys => .ok (pairsZ xs ys) := by rw [evZI]
@[simp] theorem zi_keys {G : GE} {a : Tm} : evZI G (.keys a) s = (evZ G a s).bind fun x => (vDicZ x).bind fun p => .ok (p.1.map keyD) := by rw [evZI]
@[simp] theorem zi_items {G : GE} {a : Tm} : evZI G (.items a) s = (evZ G a s).bind fun x => (vDicZ x).bind fun p => .ok (pairsZ (p.1.map keyD) p.2) := by rw [evZI]
@[simp] theorem zi_vals {G : GE} {a : Tm} : evZI G (.vals a) s = (evZ G a s).bind fun x => (vDicZ x).bind fun p => .ok p.2 := by rw [evZI]
@[simp] theorem zi_rev {G : GE} {a : Tm} : evZI G (.rev a) s = (evZ G a s).bind fun x => (vLstZ x).bind fun ds => .ok ds.reverse := by rw [evZI]
/-! statements -/
@[simp] theorem zs_nil {G : GE} : exZs G W [] s = .nx s := by rw [exZs]
@[simp] theorem zs_cons {G : GE} {c : Cm} {cs : List Cm} : exZs G W (c :: cs) s = (exZ G W c s).bind (exZs G W cs) := by rw [exZs]
@[simp] theorem zx_set {G : GE} {i : Nat} {t : Tm} : exZ G W (.set i t) s = Out.ofRes s (evZ G t s) fun d => .nx (s.set i (some d)) := by rw [exZ]
@[simp] theorem zx_unp {G : GE} {g : Tg} {t : Tm} : exZ G W (.unp g t) s = Out.ofRes s (evZ G t s) fun d => ofOpt (bindT g d s) := by rw [exZ]
@[simp] theorem zx_ret {G : GE} {t : Tm} : exZ G W (.ret t) s = Out.ofRes s (evZ G t s) fun d => .rt d s := by rw [exZ]
@[simp] theorem zx_retv {G : GE} {i : Nat} : exZ G W (.retv i) s = Out.ofRes s (slotZ s i) fun d => .rt d s := by rw [exZ]
@[simp] theorem zx_ret0 {G : GE} : exZ G W .ret0 s = .rt .non s := by rw [exZ]
/-- one of two ways on -/
def iteZ (G : GE) (W : (Sl → Sl ⊕ Out) → Sl → Out) (a b : List Cm) (s : Sl) : Bool → Out := fun r => if r = true then exZs G W a s else exZs G W b s
@[simp] theorem zx_ite {G : GE} {c : Tm} {a b : List Cm} : exZ G W (.ite c a b) s = Out.ofRes s ((evZ G c s).bind vTru) (iteZ G W a b s) := by rw [exZ]; rfl
@[simp] theorem ite_t {G : GE} {a b : List Cm} : iteZ G W a b s true = exZs G W a s := Eq.trans rfl rfl
@[simp] theorem ite_f {G : GE} {a b : List Cm} : iteZ G W a b s false = exZs G W b s := Eq.trans rfl rfl
theorem ite_d {G : GE} {a b : List Cm} {p : Prop} [Decidable p] : iteZ G W a b s (decide p) = if p then exZs G W a s else exZs G W b s := by by_cases h : p <;> simp [h]
theorem zx_whl {G : GE} {c : Tm} {b : List Cm} : exZ G W (.whl c b) s = W (fun s => toStep s ((evZ G c s).bind vTru) (fun s => exZs G W b s)) s := by rw [exZ]
theorem zx_for {G : GE} {g : Tg} {it : Itr} {b : List Cm} : exZ G W (.for_ g it b) s = Out.ofRes s (evZI G it s) fun ds => forL (bindT g) (fun s => exZs G W b s) ds s := by rw [exZ]
@[simp] theorem zx_brk {G : GE} : exZ G W .brk s = .bk s := by rw [exZ]
@[simp] theorem zx_cnt {G : GE} : exZ G W .cnt s = .ct s := by rw [exZ]
@[simp] theorem zx_pas {G : GE} : exZ G W .pas s = .nx s := by rw [exZ]
@[simp] theorem zx_ex {G : GE} {t : Tm} : exZ G W (.ex t) s = Out.ofRes s (evZ G t s) fun _ => .nx s := by rw [exZ]
@[simp] theorem zx_frz {G : GE} {i : Nat} : exZ G W (.frz i) s = Out.ofRes s (slotZ s i) fun _ => .nx s := by rw [exZ]
@[simp] theorem zx_kil {G : GE} {i : Nat} : exZ G W (.kil i) s = .nx (s.set i none) := by rw [exZ]
@[simp] theorem zx_never {G : GE} : exZ G W .never s = .stuck := by rw [exZ]
/-! exceptions -/
class Exc (T : TB) (c : Nat) (sb : outParam (List Nat)) (fs : outParam (List Nat)) : Prop where
  sub : T.sub c = sb
  xf : T.xf c = fs
class Fok (T : TB) (c f : Nat) : Prop where
  eq : T.fok c f = true
/-- a raise -/
def raiZ (T : TB) (k c : Nat) (s : Sl) (ds : List D) : Out := if (xcB T.sub c && decide ((xfAt T k c).length = ds.length)) = true then .ex c ds s else .stuck
theorem zx_rai {c : Nat} {es : List Tm} : exZ (ZG T k) W (.rai c es) s = Out.ofRes s (evZL (ZG T k) es s) (raiZ T k c s) := by rw [exZ]; rfl
theorem xc_of {c : Nat} {sb fs : List Nat} [E : Exc T c sb fs] (h : 999 ∈ sb) : xcB T.sub c = true := by unfold xcB; rw [E.sub]; exact decide_eq_true h
theorem raiZ_0 {c : Nat} {sb : List Nat} [E : Exc T c sb []] (h : 999 ∈ sb) : raiZ T k c s [] = .ex c [] s := by
  unfold raiZ xfAt
  rw [xc_of h, E.xf]
  simp
theorem raiZ_n {c : Nat} {sb fs : List Nat} {ds : List D} [E : Exc T c sb fs] (h : 999 ∈ sb) (hl : fs.length = ds.length) : raiZ T (k + 2) c s ds = .ex c ds s := by
  have hk : 2 ≤ k + 2 := Nat.le_add_left 2 k
  unfold raiZ xfAt
  rw [if_pos hk, xc_of h, E.xf, hl]
  simp
@[simp] theorem zx_rai0 {c : Nat} {sb : List Nat} [E : Exc T c sb []] (h : 999 ∈ sb := by decide) : exZ (ZG T k) W (.rai c []) s = .ex c [] s := by
  rw [zx_rai, zl_nil, Out.ofRes_ok, raiZ_0 h]
@[simp] theorem zx_rai1 {c f : Nat} {t : Tm} {sb : List Nat} [E : Exc T c sb [f]] (h : 999 ∈ sb := by decide) : exZ (ZG T (k + 2)) W (.rai c [t]) s = Out.ofRes s (evZ (ZG T (k + 2)) t s) fun d => .ex c [d] s := by
  rw [zx_rai, zl_cons, zl_nil]
  cases evZ (ZG T (k + 2)) t s with
  | ok d => simp [raiZ_n (T := T) (c := c) (ds := [d]) h rfl]
  | _ => rfl
@[simp] theorem zx_rai2 {c f g : Nat} {t u : Tm} {sb : List Nat} [E : Exc T c sb [f, g]] (h : 999 ∈ sb := by decide) : exZ (ZG T (k + 2)) W (.rai c [t, u]) s = Out.ofRes s (evZ (ZG T (k + 2)) t s) fun d => Out.ofRes s (evZ (ZG T (k + 2)) u s) fun e => .ex c [d, e] s := by
  rw [zx_rai, zl_cons, zl_cons, zl_nil]
  cases evZ (ZG T (k + 2)) t s with
  | ok d =>
    simp only [Res.bind_ok, Out.ofRes_ok]
    cases evZ (ZG T (k + 2)) u s with
    | ok e => simp [raiZ_n (T := T) (c := c) (ds := [d, e]) h rfl]
    | _ => rfl
  | _ => rfl
/-- what a try does with the end of its body -/
noncomputable def tryZ (T : TB) (k : Nat) (W : (Sl → Sl ⊕ Out) → Sl → Out) (hs : Hd) (s : Sl) : Out → Out
  | .ex c ds _ => exZH (ZG T k) W hs c ds s
  | o => o
@[simp] theorem zx_try {b : List Cm} {hs : Hd} : exZ (ZG T k) W (.try_ b hs) s = tryZ T k W hs s (exZs (ZG T k) W b s) := by
  rw [exZ]
  cases exZs (ZG T k) W b s <;> rfl
@[simp] theorem tryZ_nx {hs : Hd} {s' : Sl} : tryZ T k W hs s (.nx s') = .nx s' := Eq.trans rfl rfl
@[simp] theorem tryZ_rt {hs : Hd} {d : D} {s' : Sl} : tryZ T k W hs s (.rt d s') = .rt d s' := Eq.trans rfl rfl
@[simp] theorem tryZ_stuck {hs : Hd} : tryZ T k W hs s .stuck = .stuck := Eq.trans rfl rfl
@[simp] theorem tryZ_ex {hs : Hd} {c : Nat} {ds : List D} {s' : Sl} : tryZ T k W hs s (.ex c ds s') = exZH (ZG T k) W hs c ds s := Eq.trans rfl rfl
@[simp] theorem xh_nil {G : GE} {c : Nat} {ds : List D} : exZH G W .nil c ds s = .ex c ds s := by rw [exZH]
theorem xh_no {c hc : Nat} {o : Option Nat} {su : List Cm} {hs : Hd} {ds : List D} {sb fs sb2 fs2 : List Nat} [E : Exc T c sb fs] [E2 : Exc T hc sb2 fs2] (h1 : 999 ∈ sb) (h2 : 999 ∈ sb2) (hn : hc ∉ sb) : exZH (ZG T k) W (.cons hc o su hs) c ds s = exZH (ZG T k) W hs c ds s := by
  rw [exZH]
  show (if (xcB T.sub c && xcB T.sub hc) = true then _ else _) = _
  rw [xc_of h1, xc_of h2, Bool.and_true, if_pos rfl, if_neg]
  show ¬ (decide (hc ∈ T.sub c)) = true
  rw [E.sub]; simpa using hn
theorem xh_yes {c hc : Nat} {o : Option Nat} {su : List Cm} {hs : Hd} {ds : List D} {sb fs sb2 fs2 : List Nat} {s' : Sl} [E : Exc T c sb fs] [E2 : Exc T hc sb2 fs2] (h1 : 999 ∈ sb) (h2 : 999 ∈ sb2) (hy : hc ∈ sb) (hl : fs.length = ds.length) (hk : 2 ≤ k ∨ ds = []) (hs' : hstZ o (.ins .fz c fs.reverse ds.reverse) s = some s') :
    exZH (ZG T k) W (.cons hc o su hs) c ds s = (exZs (ZG T k) W su s').hend o := by
  have hx : xfAt T k c = fs := by
    unfold xfAt
    rw [E.xf]
    rcases hk with hk | hk
    · rw [if_pos hk]
    · subst hk
      have : fs = [] := List.length_eq_zero_iff.mp hl
      rw [this]; split <;> rfl
  rw [exZH]
  show (if (xcB T.sub c && xcB T.sub hc) = true then _ else _) = _
  rw [xc_of h1, xc_of h2, Bool.and_true, if_pos rfl, if_pos (show (decide (hc ∈ (ZG T k).sub c)) = true by show decide (hc ∈ T.sub c) = true; rw [E.sub]; simpa using hy), if_pos (show (decide (((ZG T k).xf c).length = ds.length)) = true by show decide ((xfAt T k c).length = ds.length) = true; rw [hx]; simpa using hl)]
  have : hstZ o (excD (ZG T k).xf c ds) s = some s' := by
    rw [← hs']
    congr 1
    unfold excD
    rw [show (ZG T k).xf c = xfAt T k c from rfl, hx]
  rw [this]
@[simp] theorem hend_nx1 {i : Nat} : Out.hend (some i) (.nx s) = .nx (s.set i none) := Eq.trans rfl rfl
@[simp] theorem hend_nx0 : Out.hend none (.nx s) = .nx s := Eq.trans rfl rfl
@[simp] theorem hend_rt {o : Option Nat} {d : D} : Out.hend o (.rt d s) = .rt d s := Eq.trans rfl rfl
theorem isi_exc {c q : Nat} {m : Md} {fs : List Nat} {ds : List D} {sb fs' : List Nat} [E : Exc T c sb fs'] (h : sb ≠ []) : vIsi T.sub (.cls q) (.ins m c fs ds) = .ok (decide (q ∈ sb)) := by
  show Res.guard (!(T.sub c).isEmpty) (.ok (decide (q ∈ T.sub c))) = _
  rw [E.sub]
  cases sb with
  | nil => exact absurd rfl h
  | cons a l => rfl
theorem isi_verr {c : Nat} {m : Md} {fs : List Nat} {ds : List D} {sb fs' : List Nat} [E : Exc T c sb fs'] (h : 999 ∈ sb) : vIsi T.sub .verr (.ins m c fs ds) = .ok true := by
  show Res.guard (xcB T.sub c) (.ok true) = _
  rw [xc_of h]; rfl
theorem fld_exc1 {c f : Nat} {d : D} [E : Fok T c f] : vFld T.fok f (.ins .fz c [f] [d]) = .ok d := by
  show Res.guard (T.fok c f) (Res.ofOpt (atFld f [f] [d])) = _
  rw [E.eq]; simp [atFld]
@[simp] theorem zx_app {G : GE} {o : Bool} {i : Nat} {t : Tm} : exZ G W (.app o i [] t) s = match slotZ s i with
      | .ok (.lst _ _) => Out.ofRes s (evZ G t s) fun y => Out.ofRes s ((slotZ s i).bind (appZ y)) fun d => .nx (s.set i (some d))
      | _ => .stuck := by rw [exZ] <;> rfl
@[simp] theorem zx_ext {G : GE} {i : Nat} {t : Tm} : exZ G W (.ext i [] t) s = match slotZ s i with
      | .ok (.lst _ _) => Out.ofRes s (evZ G t s) fun y => Out.ofRes s ((slotZ s i).bind (extZ y)) fun d => .nx (s.set i (some d))
      | _ => .stuck := by rw [exZ] <;> rfl
@[simp] theorem zx_clr {G : GE} {i : Nat} : exZ G W (.clr i []) s = Out.ofRes s ((slotZ s i).bind clrZ) fun d => .nx (s.set i (some d)) := by rw [exZ]
@[simp] theorem zx_put {G : GE} {o : Bool} {i : Nat} {ix t : Tm} : exZ G W (.put o i [] ix t) s = Out.ofRes s (evZ G t s) fun y => Out.ofRes s (slotZ s i) fun _ => Out.ofRes s (evZ G ix s) fun k => Out.ofRes s ((slotZ s i).bind (putZ k y)) fun d => .nx (s.set i (some d)) := by rw [exZ]
@[simp] theorem zx_fput {o : Bool} {i f : Nat} {t : Tm} : exZ (ZG T k) W (.fput o i [] f t) s = Out.ofRes s (evZ (ZG T k) t s) fun y => Out.ofRes s ((slotZ s i).bind (fputZ T.fok f y)) fun d => .nx (s.set i (some d)) := by rw [exZ]; rfl
/-- C.__init__(self, ..), run -/
noncomputable def iniZ (T : TB) (k c : Nat) (x : D) (ds : List D) (s : Sl) : Out := match T.init c with
  | some f => match x with
    | .ins _ q fs vs => match (runZ T whileV k).1 f (.ins .fz q fs vs :: ds) with
      | .ret _ (some d :: _) => .nx (s.set 0 (some d))
      | .ex c ds _ => .ex c ds (s.set 0 none)
      | _ => .stuck
    | _ => .stuck
  | none => .stuck
theorem zx_ini {c : Nat} {es : List Tm} {d : D} {ds : List D} (h0 : slotZ s 0 = .ok d) (h : evZL (ZG T k) es (s.set 0 none) = .ok ds) : exZ (ZG T k) W (.ini c es) s = iniZ T k c d ds s := by
  rw [exZ, h]
  show (match T.init c with
      | some f => match slotZ s 0 with
        | .ok (.ins _ k' fs vs) => match (runZ T whileV k).1 f (.ins .fz k' fs vs :: ds) with
          | .ret _ (some d :: _) => .nx (s.set 0 (some d))
          | .ex c ds _ => .ex c ds (s.set 0 none)
          | _ => .stuck
        | _ => .stuck
      | none => .stuck : Out) = _
  rw [h0]
  unfold iniZ
  cases T.init c with
  | none => rfl
  | some f => cases d <;> rfl
@[simp] theorem sl_0 {d : D} {s : Sl} : slotZ (some d :: s) 0 = .ok d := Eq.trans rfl rfl
@[simp] theorem sl_s {o : Option D} {s : Sl} {i : Nat} : slotZ (o :: s) (i + 1) = slotZ s i := Eq.trans rfl rfl
theorem sl_get {s : Sl} {i : Nat} {d : D} (h : s[i]? = some (some d)) : slotZ s i = .ok d := by unfold slotZ; rw [h]
/-! targets -/
@[simp] theorem bt_nm {i : Nat} {d : D} : bindT (.nm i) d s = some (s.set i (some d)) := by rw [bindT]
@[simp] theorem bt_tp {gs : List Tg} {m : Md} {ds : List D} : bindT (.tp gs) (.tup m ds) s = bindTs gs ds s := by rw [bindT]
@[simp] theorem bt_ls {gs : List Tg} {m : Md} {ds : List D} : bindT (.tp gs) (.lst m ds) s = bindTs gs ds s := by rw [bindT]
@[simp] theorem bts_nil : bindTs [] [] s = some s := by rw [bindTs]
@[simp] theorem bts_cons {g : Tg} {gs : List Tg} {d : D} {ds : List D} : bindTs (g :: gs) (d :: ds) s = (bindT g d s).bind fun s' => bindTs gs ds s' := by rw [bindTs]
/-! values -/
@[simp] theorem bz_add {i j : Int} : vBopZ .add (.int i) (.int j) = .ok (.int (i + j)) := rfl
@[simp] theorem bz_sub {i j : Int} : vBopZ .sub (.int i) (.int j) = .ok (.int (i - j)) := rfl
@[simp] theorem bz_mul {i j : Int} : vBopZ .mul (.int i) (.int j) = Res.guard (mulOk i j) (.ok (.int (i * j))) := rfl
theorem bz_fdiv {i j : Int} (h : divOk j = true) : vBopZ .fdiv (.int i) (.int j) = .ok (.int (i.fdiv j)) := by
  show Res.guard (divOk j) _ = _
  rw [h]; rfl
@[simp] theorem bz_fdivS {i j : Int} (h0 : 0 < j) (h : j < 18446744073709551616) : vBopZ .fdiv (.int i) (.int j) = .ok (.int (i / j)) := by
  rw [bz_fdiv (divOk_of h0 h), fdiv_nn _ (by omega)]
@[simp] theorem bz_mod {i j : Int} (h0 : 0 < j) : vBopZ .mod (.int i) (.int j) = .ok (.int (i % j)) := by
  show Res.guard (decide (j ≠ 0)) _ = _
  rw [decide_eq_true (by omega), fmod_nn _ (by omega)]; rfl
@[simp] theorem bz_pow {i j : Int} (h : 0 ≤ j) (h2 : j ≤ 1000000) (h3 : i.natAbs < 2 ^ 64) : vBopZ .pow (.int i) (.int j) = .ok (.int (i ^ j.toNat)) := by
  show Res.guard _ _ = _
  rw [decide_eq_true h, decide_eq_true h2, decide_eq_true h3]; rfl
@[simp] theorem bz_smul {x : Str} {n : Int} : vBopZ .mul (.str x) (.int n) = Res.guard (smulOk x n) (.ok (.str (PySem.Txt.mul x n))) := Eq.trans rfl rfl
@[simp] theorem bz_addL {m m' : Md} {xs ys : List D} : vBopZ .cat (.lst m xs) (.lst m' ys) = Res.guard (okLen (xs.length + ys.length)) (.ok (.lst .fz (xs ++ ys))) := rfl
@[simp] theorem bz_addS {x y : Str} : vBopZ .add (.str x) (.str y) = Res.guard (okLen (x.length + y.length)) (.ok (.str (x ++ y))) := rfl
@[simp] theorem sz_lst {m : Md} {ds : List D} {lo hi : Option Int} : vSlcZ (.lst m ds) lo hi = .ok (.lst .fz (cutD ds lo hi)) := rfl
@[simp] theorem bl_len {m : Md} {ds : List D} : vBltZ .len [.lst m ds] = .ok (.int ds.length) := rfl
@[simp] theorem bl_lenT {m : Md} {ds : List D} : vBltZ .len [.tup m ds] = .ok (.int ds.length) := rfl
@[simp] theorem bl_lenD {m : Md} {ks : List Key} {ds : List D} : vBltZ .len [.dic m ks ds] = .ok (.int ks.length) := rfl
@[simp] theorem bl_abs {i : Int} : vBltZ .abs [.int i] = .ok (.int i.natAbs) := by show Res.ok (D.int (if i < 0 then -i else i)) = _; rw [natAbs_if]
@[simp] theorem bl_min {i j : Int} : vBltZ .min2 [.int i, .int j] = .ok (.int (min i j)) := by
  show Res.ok (D.int (if j < i then j else i)) = _
  congr 2; split <;> omega
@[simp] theorem bl_max {i j : Int} : vBltZ .max2 [.int i, .int j] = .ok (.int (max i j)) := by
  show Res.ok (D.int (if j > i then j else i)) = _
  congr 2; split <;> omega
@[simp] theorem bl_list {m : Md} {ds : List D} : vBltZ .list [.lst m ds] = .ok (.lst .fz ds) := rfl
@[simp] theorem bl_listT {m : Md} {ds : List D} : vBltZ .list [.tup m ds] = .ok (.lst .fz ds) := rfl
@[simp] theorem bl_listD {m : Md} {ks : List Key} {ds : List D} : vBltZ .list [.dic m ks ds] = .ok (.lst .fz (ks.map keyD)) := rfl
@[simp] theorem bl_dict {m : Md} {ks : List Key} {ds : List D} : vBltZ .dict [.dic m ks ds] = .ok (.dic .fz ks ds) := rfl
@[simp] theorem bm_vals {m : Md} {ks : List Key} {ds : List D} : vBmtZ .vals (.dic m ks ds) [] = .ok (.lst .fz ds) := rfl
@[simp] theorem bmr_vals {m : Md} {ks : List Key} {ds : List D} : bmtR .vals (.dic m ks ds) = true := rfl
@[simp] theorem bmr_get2 {m : Md} {ks : List Key} {ds : List D} : bmtR .get2 (.dic m ks ds) = true := rfl
@[simp] theorem bm_get2 {m : Md} {ks : List Key} {ds : List D} {x : Str} {y : D} : vBmtZ .get2 (.dic m ks ds) [.str x, y] = .ok ((atKeyD (.inr x) ks ds).getD y) := rfl
@[simp] theorem vs_lst {m : Md} {ds : List D} : vSeqZ (.lst m ds) = .ok ds := rfl
@[simp] theorem vs_tup {m : Md} {ds : List D} : vSeqZ (.tup m ds) = .ok ds := rfl
@[simp] theorem vl_lst {m : Md} {ds : List D} : vLstZ (.lst m ds) = .ok ds := rfl
@[simp] theorem vd_dic {m : Md} {ks : List Key} {ds : List D} : vDicZ (.dic m ks ds) = .ok (ks, ds) := rfl
@[simp] theorem ap_lst {m : Md} {y : D} {ds : List D} : appZ y (.lst m ds) = Res.guard (okLt ds.length) (.ok (.lst .fz (ds ++ [y]))) := rfl
@[simp] theorem ext_lst {m m' : Md} {ys ds : List D} : extZ (.lst m ys) (.lst m' ds) = Res.guard (okLen (ds.length + ys.length)) (.ok (.lst .fz (ds ++ ys))) := rfl
@[simp] theorem ixt {m : Md} {ds : List D} {i : Int} : vIx (.tup m ds) (.int i) = Res.ofOpt (atI ds i) := rfl
@[simp] theorem ixd {m : Md} {ks : List Key} {ds : List D} {x : Str} : vIx (.dic m ks ds) (.str x) = Res.ofOpt (atKeyD (.inr x) ks ds) := rfl
@[simp] theorem at_0 {α : Type} {a : α} {l : List α} : atI (a :: l) 0 = some a := by
  unfold atI ixN; rw [if_pos (by omega), if_pos (by simp)]; rfl

@[simp] theorem at_1 {α : Type} {a b : α} {l : List α} : atI (a :: b :: l) 1 = some b := by
  unfold atI ixN; rw [if_pos (by omega), if_pos (by simp; omega)]; rfl
@[simp] theorem at_2 {α : Type} {a b c : α} {l : List α} : atI (a :: b :: c :: l) 2 = some c := by
  unfold atI ixN; rw [if_pos (by omega), if_pos (by simp; omega)]; rfl
@[simp] theorem at_3 {α : Type} {a b c d : α} {l : List α} : atI (a :: b :: c :: d :: l) 3 = some d := by
  unfold atI ixN; rw [if_pos (by omega), if_pos (by simp; omega)]; rfl
@[simp] theorem at_4 {α : Type} {a b c d e : α} {l : List α} : atI (a :: b :: c :: d :: e :: l) 4 = some e := by
  unfold atI ixN; rw [if_pos (by omega), if_pos (by simp; omega)]; rfl
@[simp] theorem at_5 {α : Type} {a b c d e f : α} {l : List α} : atI (a :: b :: c :: d :: e :: f :: l) 5 = some f := by
  unfold atI ixN; rw [if_pos (by omega), if_pos (by simp; omega)]; rfl
@[simp] theorem at_6 {α : Type} {a b c d e f g : α} {l : List α} : atI (a :: b :: c :: d :: e :: f :: g :: l) 6 = some g := by
  unfold atI ixN; rw [if_pos (by omega), if_pos (by simp; omega)]; rfl
theorem at_nat {α : Type} (l : List α) (j : Nat) : atI l (j : Int) = l[j]? := by
  unfold atI ixN
  rw [if_pos (by omega)]
  split
  · rfl
  · rw [List.getElem?_eq_none (by omega)]; rfl
theorem at_map {α β : Type} (f : α → β) (l : List α) (i : Int) : atI (l.map f) i = (atI l i).map f := by
  unfold atI
  rw [List.length_map]
  cases ixN l.length i with
  | none => rfl
  | some j => simp
theorem at_of {α : Type} {l : List α} {i : Int} {j : Nat} (h : i = j) (hj : j < l.length) : atI l i = some l[j] := by subst h; rw [at_nat]; simp [hj]
theorem ite_to {G : GE} {a b : List Cm} {p : Prop} [Decidable p] (s' : Sl) (h1 : p → exZs G W a s = .nx s') (h0 : ¬p → exZs G W b s = .nx s') : iteZ G W a b s (decide p) = .nx s' := by
  by_cases h : p
  · simp [h, h1 h]
  · simp [h, h0 h]
@[simp] theorem mulOk_ls {i j : Int} (h1 : -18446744073709551616 < i) (h2 : i < 18446744073709551616) : mulOk i j = true := mulOk_l (by omega)
@[simp] theorem mulOk_rs {i j : Int} (h1 : -18446744073709551616 < j) (h2 : j < 18446744073709551616) : mulOk i j = true := mulOk_r (by omega)
/-! loops -/
/-- a for's loop that ends: a state of one's own -/
theorem for_fold {α σ : Type} {bnd : D → Sl → Option Sl} {body : Sl → Out} (e : α → D) (S : σ → Sl) (f : σ → α → σ) : ∀ (xs : List α) (a : σ), (∀ pre x post, xs = pre ++ x :: post → ∃ s1, bnd (e x) (S (pre.foldl f a)) = some s1 ∧ (body s1 = .nx (S (f (pre.foldl f a) x)) ∨ body s1 = .ct (S (f (pre.foldl f a) x)))) →
    forL bnd body (xs.map e) (S a) = .nx (S (xs.foldl f a))
  | [], a, _ => rfl
  | x :: xs, a, h => by
    obtain ⟨s1, h1, h2⟩ := h [] x xs rfl
    rw [List.map_cons]
    unfold forL
    rw [show S (List.foldl f a []) = S a from rfl] at h1
    rw [h1]
    dsimp only
    have ih := for_fold e S f xs (f a x) fun pre y post hy => h (x :: pre) y post (by rw [hy]; rfl)
    rcases h2 with h2 | h2 <;> (rw [h2]; exact ih)
/-- a for's loop by an invariant over what has been walked -/
theorem for_inv {α : Type} {bnd : D → Sl → Option Sl} {body : Sl → Out} (e : α → D) (P : List α → Sl → Prop) : ∀ (xs pre : List α) (s : Sl), P pre s → (∀ pre' x post s, pre ++ xs = pre' ++ x :: post → P pre' s → ∃ s1 s2, bnd (e x) s = some s1 ∧ (body s1 = .nx s2 ∨ body s1 = .ct s2) ∧ P (pre' ++ [x]) s2) →
    ∃ s', forL bnd body (xs.map e) s = .nx s' ∧ P (pre ++ xs) s'
  | [], pre, s, h, _ => ⟨s, rfl, by rw [List.append_nil]; exact h⟩
  | x :: xs, pre, s, h, hs => by
    obtain ⟨s1, s2, h1, h2, h3⟩ := hs pre x xs s rfl h
    obtain ⟨s', h4, h5⟩ := for_inv e P xs (pre ++ [x]) s2 h3 (fun pre' y post s hy hp => hs pre' y post s (by rw [← hy]; simp) hp)
    refine ⟨s', ?_, by rw [show pre ++ x :: xs = pre ++ [x] ++ xs by simp]; exact h5⟩
    rw [List.map_cons]
    unfold forL
    rw [h1]
    dsimp only
    rcases h2 with h2 | h2 <;> (rw [h2]; exact h4)
/-- a for's loop without a state: each turn comes back to s -/
theorem for_same {α : Type} {bnd : D → Sl → Option Sl} {body : Sl → Out} (e : α → D) (s : Sl) : ∀ (xs : List α), (∀ x ∈ xs, ∃ s1, bnd (e x) s = some s1 ∧ (body s1 = .nx s ∨ body s1 = .ct s)) → forL bnd body (xs.map e) s = .nx s
  | [], _ => rfl
  | x :: xs, h => by
    obtain ⟨s1, h1, h2⟩ := h x (by simp)
    rw [List.map_cons]
    unfold forL
    rw [h1]
    dsimp only
    rcases h2 with h2 | h2 <;> (rw [h2]; exact for_same e s xs fun y hy => h y (by simp [hy]))
/-- out of a loop at the first x with p -/
theorem for_find {α : Type} {bnd : D → Sl → Option Sl} {body : Sl → Out} (e : α → D) (s : Sl) (p : α → Bool) (r : α → Out) : ∀ (xs : List α), (∀ x ∈ xs, ∃ s1, bnd (e x) s = some s1 ∧ (p x = false → body s1 = .nx s ∨ body s1 = .ct s) ∧ (p x = true → body s1 = r x ∧ (∀ s', r x ≠ .nx s') ∧ (∀ s', r x ≠ .ct s') ∧ (∀ s', r x ≠ .bk s'))) →
    forL bnd body (xs.map e) s = match xs.find? p with
      | some x => r x
      | none => .nx s
  | [], _ => rfl
  | x :: xs, h => by
    obtain ⟨s1, h1, h2, h3⟩ := h x (by simp)
    have ih := for_find e s p r xs fun y hy => h y (by simp [hy])
    rw [List.map_cons]
    unfold forL
    rw [h1]
    dsimp only
    cases hp : p x with
    | false =>
      rw [List.find?_cons_of_neg (by simp [hp])]
      rcases h2 hp with h2 | h2 <;> (rw [h2]; exact ih)
    | true =>
      rw [List.find?_cons_of_pos hp]
      obtain ⟨e1, e2, e3, e4⟩ := h3 hp
      rw [e1]
      dsimp only
      cases er : r x <;> first | rfl | exact absurd er (e2 _) | exact absurd er (e3 _) | exact absurd er (e4 _)
/-- a comprehension -/
theorem comp_map {α β : Type} {bnd : D → Option Sl} {tst : Sl → Res Bool} {elt : Sl → Res D} (e : α → D) (f : β → D) (g : α → β) : ∀ (xs : List α), (∀ x ∈ xs, ∃ s, bnd (e x) = some s ∧ tst s = .ok true ∧ elt s = .ok (f (g x))) → compZ bnd tst elt (xs.map e) = .ok ((xs.map g).map f)
  | [], _ => rfl
  | x :: xs, h => by
    obtain ⟨s, h1, h2, h3⟩ := h x (by simp)
    rw [List.map_cons]
    unfold compZ
    rw [h1, Res.ofOpt_some, Res.bind_ok, h2, Res.bind_ok, if_pos rfl, h3, Res.bind_ok, comp_map e f g xs fun y hy => h y (by simp [hy])]
    rfl
theorem comp_filt {α β : Type} {bnd : D → Option Sl} {tst : Sl → Res Bool} {elt : Sl → Res D} (e : α → D) (p : α → Bool) (f : β → D) (g : α → β) : ∀ (xs : List α), (∀ x ∈ xs, ∃ s, bnd (e x) = some s ∧ tst s = .ok (p x) ∧ (p x = true → elt s = .ok (f (g x)))) → compZ bnd tst elt (xs.map e) = .ok (((xs.filter p).map g).map f)
  | [], _ => rfl
  | x :: xs, h => by
    obtain ⟨s, h1, h2, h3⟩ := h x (by simp)
    have ih := comp_filt e p f g xs fun y hy => h y (by simp [hy])
    rw [List.map_cons]
    unfold compZ
    rw [h1, Res.ofOpt_some, Res.bind_ok, h2, Res.bind_ok]
    cases hp : p x with
    | true => rw [if_pos rfl, h3 hp, Res.bind_ok, ih, List.filter_cons_of_pos hp]; rfl
    | false => rw [if_neg (by simp), ih, List.filter_cons_of_neg (by simp [hp])]
/-- the same, for the statement -/
theorem xfor {G : GE} {g : Tg} {it : Itr} {b : List Cm} {ds : List D} (h : evZI G it s = .ok ds) : exZ G W (.for_ g it b) s = forL (bindT g) (fun s => exZs G W b s) ds s := by rw [zx_for, h]; rfl
theorem xfold {α σ : Type} {G : GE} {g : Tg} {it : Itr} {b : List Cm} {xs : List α} (e : α → D) (S : σ → Sl) (f : σ → α → σ) (a : σ) (hs : s = S a) (h : evZI G it s = .ok (xs.map e)) (hb : ∀ pre x post, xs = pre ++ x :: post → ∃ s1, bindT g (e x) (S (pre.foldl f a)) = some s1 ∧ (exZs G W b s1 = .nx (S (f (pre.foldl f a) x)) ∨ exZs G W b s1 = .ct (S (f (pre.foldl f a) x)))) :
    exZ G W (.for_ g it b) s = .nx (S (xs.foldl f a)) := by
  rw [xfor h, hs]; exact for_fold e S f xs a hb
theorem xsame {α : Type} {G : GE} {g : Tg} {it : Itr} {b : List Cm} {xs : List α} (e : α → D) (h : evZI G it s = .ok (xs.map e)) (hb : ∀ x ∈ xs, ∃ s1, bindT g (e x) s = some s1 ∧ (exZs G W b s1 = .nx s ∨ exZs G W b s1 = .ct s)) : exZ G W (.for_ g it b) s = .nx s := by
  rw [xfor h]; exact for_same e s xs hb
theorem xinv {α : Type} {G : GE} {g : Tg} {it : Itr} {b : List Cm} {xs : List α} (e : α → D) (P : List α → Sl → Prop) (h : evZI G it s = .ok (xs.map e)) (h0 : P [] s) (hb : ∀ pre x post s, xs = pre ++ x :: post → P pre s → ∃ s1 s2, bindT g (e x) s = some s1 ∧ (exZs G W b s1 = .nx s2 ∨ exZs G W b s1 = .ct s2) ∧ P (pre ++ [x]) s2) :
    ∃ s', exZ G W (.for_ g it b) s = .nx s' ∧ P xs s' := by
  rw [xfor h]
  exact for_inv e P xs [] s h0 hb
theorem range_map (n : Nat) : rangeD 0 n = (List.range n).map fun (i : Nat) => D.int (i : Int) := by
  unfold rangeD
  exact List.map_congr_left fun i _ => by rw [Int.zero_add]
theorem small_nat {n : Nat} (h : n ≤ 1000000000) : small62 (n : Int) = true := by
  unfold small62
  have h1 : (-(2 ^ 62) : Int) ≤ (n : Int) := by have : (0 : Int) ≤ 2 ^ 62 := by decide
                                                omega
  have h2 : (n : Int) < 2 ^ 62 := by have : (1000000000 : Int) < 2 ^ 62 := by decide
                                     omega
  rw [decide_eq_true h1, decide_eq_true h2]
  rfl
/-- range(n), range(m, m + n) -/
theorem rng1N {G : GE} {a : Tm} {n : Nat} (h : evZ G a s = .ok (.int n)) (hn : n ≤ 1000000000) : evZI G (.rng1 a) s = .ok ((List.range n).map fun (i : Nat) => D.int (i : Int)) := by
  rw [zi_rng1, h, Res.bind_ok, vint_int, Res.bind_ok, small_nat hn, Int.toNat_natCast, range_map]; rfl
theorem rng2N {G : GE} {a b : Tm} {m n : Nat} (h : evZ G a s = .ok (.int m)) (h2 : evZ G b s = .ok (.int (m + n : Nat))) (hn : m + n ≤ 1000000000) : evZI G (.rng2 a b) s = .ok ((List.range n).map fun (i : Nat) => D.int ((m + i : Nat) : Int)) := by
  rw [zi_rng2, h, Res.bind_ok, vint_int, Res.bind_ok, h2, Res.bind_ok, vint_int, Res.bind_ok, small_nat (show m ≤ 1000000000 by omega), small_nat hn]
  show Res.ok _ = Res.ok _
  unfold rangeD
  rw [show ((m + n : Nat) : Int) - (m : Int) = (n : Int) by omega, Int.toNat_natCast]
  congr 1
end
/-! dicts -/
theorem pairs_map {α β : Type} (f : α → D) (g : β → D) : ∀ (xs : List α) (ys : List β), pairsZ (xs.map f) (ys.map g) = (xs.zip ys).map fun p => Tp [f p.1, g p.2]
  | [], ys => by cases ys <;> rfl
  | x :: xs, [] => rfl
  | x :: xs, y :: ys => by
    show Tp [f x, g y] :: pairsZ (xs.map f) (ys.map g) = _
    rw [pairs_map f g xs ys]; rfl
theorem enums_map {α : Type} (f : α → D) : ∀ (xs : List α) (i : Nat), enumsZ i (xs.map f) = (xs.zipIdx i).map fun p => Tp [.int (p.2 : Nat), f p.1]
  | [], i => rfl
  | x :: xs, i => by
    show Tp [.int i, f x] :: enumsZ (i + 1) (xs.map f) = _
    rw [enums_map f xs (i + 1)]; rfl
end GS

namespace GS
open PySem PySem.Spec PyProof.Rows L2
/-! the small syntax of defs that laws share (printed) -/
def p_divisor_c_b1 (x : Nat → Nat) : List Cm := .set 2 (.op .mod (.var 0) (.var 1)) ::
  .frz 2 ::
  .set 0 (.var 1) ::
  .set 1 (.var 2) ::
  .kil 2 ::
  []
def p_divisor_c_2 (x : Nat → Nat) : List Cm := .kil 2 ::
  .ret (.var 0) ::
  []
def p_divisor_c_1 (x : Nat → Nat) : List Cm := .whl (.cmp .ne (.var 1) (.cst (.int 0))) (p_divisor_c_b1 x) ::
  p_divisor_c_2 x
def p_divisor_c (x : Nat → Nat) : List Cm := .set 0 (.blt .abs [.var 0]) ::
  .set 1 (.blt .abs [.var 1]) ::
  p_divisor_c_1 x
def p_divisor (x : Nat → Nat) : Df := ⟨2, 3, (p_divisor_c x), []⟩
def p_law_cell_at (x : Nat → Nat) : Df := ⟨2, 2, [.ite (.cmp .lt (.var 1) (.blt .len [.var 0])) [.ret (.ix (.var 0) (.var 1))] [],
  .ret (.cst (.int 0))], []⟩
def p_law_whole (x : Nat → Nat) : Df := ⟨1, 1, [.ret (.and [.isi (.var 0) .int, .not (.isi (.var 0) .bool)])], []⟩
def p_total_c_b1 (x : Nat → Nat) : List Cm := .set 1 (.met (.var 1) 2 [.var 2]) ::
  .frz 1 ::
  .kil 2 ::
  []
def p_total_c_2 (x : Nat → Nat) : List Cm := .kil 2 ::
  .retv 1 ::
  []
def p_total_c_1 (x : Nat → Nat) : List Cm := .for_ (.nm 2) (.seq (.var 0)) (p_total_c_b1 x) ::
  p_total_c_2 x
def p_total_c (x : Nat → Nat) : List Cm := .set 1 (.mak 0 [.cst (.int 0)]) ::
  .frz 1 ::
  p_total_c_1 x
def p_total (x : Nat → Nat) : Df := ⟨1, 3, (p_total_c x), []⟩
def p_law_divisor_c_b1 (x : Nat → Nat) : List Cm := .set 2 (.op .mod (.var 0) (.var 1)) ::
  .frz 2 ::
  .set 0 (.var 1) ::
  .set 1 (.var 2) ::
  .kil 2 ::
  []
def p_law_divisor_c_2 (x : Nat → Nat) : List Cm := .kil 2 ::
  .ret (.var 0) ::
  []
def p_law_divisor_c_1 (x : Nat → Nat) : List Cm := .whl (.cmp .gt (.var 1) (.cst (.int 0))) (p_law_divisor_c_b1 x) ::
  p_law_divisor_c_2 x
def p_law_divisor_c (x : Nat → Nat) : List Cm := .set 0 (.blt .abs [.var 0]) ::
  .set 1 (.blt .abs [.var 1]) ::
  p_law_divisor_c_1 x
def p_law_divisor (x : Nat → Nat) : Df := ⟨2, 3, (p_law_divisor_c x), []⟩
def p_law_is (x : Nat → Nat) : Df := ⟨3, 3, [.ite (.or [.not (.isi (.var 0) (.cls 0)), .not (.cal (x 2) [.fld (.var 0) 0]), .not (.cal (x 2) [.fld (.var 0) 1])]) [.ret (.cst (.bl false))] [],
  .ite (.or [.cmp .lt (.fld (.var 0) 1) (.cst (.int 1)), .cmp .ne (.cal (x 4) [.fld (.var 0) 0, .fld (.var 0) 1]) (.cst (.int 1))]) [.ret (.cst (.bl false))] [],
  .ret (.cmp .eq (.op .mul (.fld (.var 0) 0) (.var 2)) (.op .mul (.var 1) (.fld (.var 0) 1)))], []⟩
def p_Fraction__init (x : Nat → Nat) : Df := ⟨3, 4, [.ite (.cmp .eq (.var 2) (.cst (.int 0))) [.rai 8 []] [],
  .set 3 (.cal (x 0) [.var 1, .var 2]),
  .frz 3,
  .ite (.cmp .lt (.var 2) (.cst (.int 0))) [.set 3 (.op .sub (.cst (.int 0)) (.var 3)), .frz 3] [],
  .fput true 0 [] 0 (.op .fdiv (.var 1) (.var 3)),
  .fput true 0 [] 1 (.op .fdiv (.var 2) (.var 3))], [.int 1]⟩
def p_Fraction_plus (x : Nat → Nat) : Df := ⟨2, 2, [.ret (.mak 0 [.op .add (.op .mul (.fld (.var 0) 0) (.fld (.var 1) 1)) (.op .mul (.fld (.var 1) 0) (.fld (.var 0) 1)), .op .mul (.fld (.var 0) 1) (.fld (.var 1) 1)])], []⟩
def p_Fraction_over (x : Nat → Nat) : Df := ⟨2, 2, [.ret (.mak 0 [.op .mul (.fld (.var 0) 0) (.fld (.var 1) 1), .op .mul (.fld (.var 0) 1) (.fld (.var 1) 0)])], []⟩
def p_Fraction_minus (x : Nat → Nat) : Df := ⟨2, 2, [.ret (.mak 0 [.op .sub (.op .mul (.fld (.var 0) 0) (.fld (.var 1) 1)) (.op .mul (.fld (.var 1) 0) (.fld (.var 0) 1)), .op .mul (.fld (.var 0) 1) (.fld (.var 1) 1)])], []⟩
def p_Fraction_times (x : Nat → Nat) : Df := ⟨2, 2, [.ret (.mak 0 [.op .mul (.fld (.var 0) 0) (.fld (.var 1) 0), .op .mul (.fld (.var 0) 1) (.fld (.var 1) 1)])], []⟩
def p_dotted (x : Nat → Nat) : Df := ⟨2, 2, [.ret (.op .add (.op .add (.var 0) (.cst (.str "."))) (.blt .str [.var 1]))], []⟩
def p_law_name (x : Nat → Nat) : Df := ⟨2, 3, [.set 2 (.cst (.str "abcdefghijklmnopqrstuvwxyz0123456789.")),
  .frz 2,
  .set 0 (.op .mod (.op .add (.op .mul (.var 0) (.op .add (.cst (.int 1)) (.op .mod (.op .fdiv (.var 1) (.cst (.int 5))) (.cst (.int 36))))) (.op .fdiv (.var 1) (.cst (.int 180)))) (.cst (.int 37))),
  .ite (.cmp .eq (.op .mod (.var 1) (.cst (.int 3))) (.cst (.int 0))) [.ret (.op .mul (.ix (.var 2) (.op .mod (.op .fdiv (.var 1) (.cst (.int 3))) (.cst (.int 37)))) (.op .add (.var 0) (.cst (.int 1))))] [],
  .ret (.op .add (.op .add (.op .mul (.cst (.str "x")) (.op .mod (.op .fdiv (.var 1) (.cst (.int 3))) (.cst (.int 25)))) (.ix (.var 2) (.var 0))) (.op .mul (.cst (.str "x")) (.op .mod (.op .fdiv (.var 1) (.cst (.int 75))) (.cst (.int 25)))))], []⟩
def p_Fraction_under (x : Nat → Nat) : Df := ⟨2, 2, [.ret (.cmp .lt (.op .mul (.fld (.var 0) 0) (.fld (.var 1) 1)) (.op .mul (.fld (.var 1) 0) (.fld (.var 0) 1)))], []⟩
def p_Fraction_sign (x : Nat → Nat) : Df := ⟨1, 1, [.ite (.cmp .gt (.fld (.var 0) 0) (.cst (.int 0))) [.ret (.cst (.int 1))] [],
  .ite (.cmp .lt (.fld (.var 0) 0) (.cst (.int 0))) [.ret (.neg (.cst (.int 1)))] [],
  .ret (.cst (.int 0))], []⟩
def p_Way__init (x : Nat → Nat) : Df := ⟨6, 6, [.ite (.and [.cmp .eq (.var 2) (.var 3), .not (.met (.var 0) 17 [])]) [.rai 15 [.var 1]] [],
  .ite (.and [.cmp .notN (.var 4) (.cst .non), .cmp .lt (.met (.var 4) 8 []) (.cst (.int 0))]) [.rai 15 [.var 1]] [],
  .fput true 0 [] 10 (.var 1),
  .fput true 0 [] 11 (.var 2),
  .fput true 0 [] 12 (.var 3),
  .fput true 0 [] 13 (.var 4),
  .fput true 0 [] 14 (.var 5),
  .ite (.cmp .isN (.var 5) (.cst .non)) [.fput true 0 [] 14 (.mak 0 [.cst (.int 0)])] []], [.non, .non]⟩
def p_Way_stays (x : Nat → Nat) : Df := ⟨1, 1, [.ret (.cst (.bl false))], []⟩
def p_Way_gain (x : Nat → Nat) : Df := ⟨1, 1, [.ret (.mak 0 [.cst (.int 1)])], []⟩
def p_Way_out (x : Nat → Nat) : Df := ⟨2, 2, [.ret (.met (.var 1) 4 [.met (.var 0) 18 []])], []⟩
def p_Way_at_turn (x : Nat → Nat) : Df := ⟨2, 2, [.ret (.mak 1 [.cal (x 11) [.fld (.var 0) 10, .var 1], .cal (x 11) [.fld (.var 0) 11, .var 1], .cal (x 11) [.fld (.var 0) 12, .var 1], .fld (.var 0) 13, .fld (.var 0) 14])], []⟩
def p_Growing__init (x : Nat → Nat) : Df := ⟨7, 7, [.ini 1 [.var 1, .var 2, .var 3, .var 5, .var 6],
  .ite (.cmp .le (.met (.var 4) 8 []) (.cst (.int 0))) [.rai 15 [.var 1]] [],
  .fput true 0 [] 15 (.var 4)], [.non, .non]⟩
def p_Growing_gain (x : Nat → Nat) : Df := ⟨1, 1, [.ret (.fld (.var 0) 15)], []⟩
def p_Growing_at_turn (x : Nat → Nat) : Df := ⟨2, 3, [.set 2 (.cal (x 11) [.fld (.var 0) 11, .var 1]),
  .frz 2,
  .ret (.mak 2 [.cal (x 11) [.fld (.var 0) 10, .var 1], .var 2, .cal (x 11) [.fld (.var 0) 12, .var 1], .fld (.var 0) 15, .fld (.var 0) 13, .fld (.var 0) 14])], []⟩
def p_Leaking__init (x : Nat → Nat) : Df := ⟨7, 7, [.ini 1 [.var 1, .var 2, .var 3, .var 5, .var 6],
  .ite (.or [.cmp .lt (.met (.var 4) 8 []) (.cst (.int 0)), .not (.met (.var 4) 6 [.mak 0 [.cst (.int 1)]])]) [.rai 15 [.var 1]] [],
  .fput true 0 [] 16 (.var 4)], [.non, .non]⟩
def p_Leaking_gain (x : Nat → Nat) : Df := ⟨1, 1, [.ret (.met (.mak 0 [.cst (.int 1)]) 3 [.fld (.var 0) 16])], []⟩
def p_Leaking_out (x : Nat → Nat) : Df := ⟨2, 2, [.ret (.met (.var 1) 3 [.met (.var 1) 4 [.fld (.var 0) 16]])], []⟩
def p_Leaking_at_turn (x : Nat → Nat) : Df := ⟨2, 3, [.set 2 (.cal (x 11) [.fld (.var 0) 11, .var 1]),
  .frz 2,
  .ret (.mak 3 [.cal (x 11) [.fld (.var 0) 10, .var 1], .var 2, .cal (x 11) [.fld (.var 0) 12, .var 1], .fld (.var 0) 16, .fld (.var 0) 13, .fld (.var 0) 14])], []⟩
def p_Store__init (x : Nat → Nat) : Df := ⟨6, 6, [.ini 3 [.var 1, .var 2, .var 2, .var 3, .var 4, .var 5]], [.non, .non]⟩
def p_Store_stays (x : Nat → Nat) : Df := ⟨1, 1, [.ret (.cst (.bl true))], []⟩
def p_Store_at_turn (x : Nat → Nat) : Df := ⟨2, 3, [.set 2 (.cal (x 11) [.fld (.var 0) 12, .op .add (.var 1) (.cst (.int 1))]),
  .frz 2,
  .ret (.mak 3 [.cal (x 11) [.fld (.var 0) 10, .var 1], .cal (x 11) [.fld (.var 0) 11, .var 1], .var 2, .fld (.var 0) 16, .fld (.var 0) 13, .fld (.var 0) 14])], []⟩
def p_amount (x : Nat → Nat) : Df := ⟨2, 2, [.ret (.bmt .get2 (.var 0) [.var 1, .mak 0 [.cst (.int 0)]])], []⟩
def p_strangers (x : Nat → Nat) : Df := ⟨2, 5, [.set 2 (.cmpr (.fld (.var 3) 10) (.nm 3) (.seq (.met (.var 0) 26 [])) []),
  .frz 2,
  .ret (.cmpr (.var 4) (.nm 4) (.seq (.var 1)) [.cmp .notin (.var 4) (.var 2)])], []⟩
def p_own_sums_c_b1 (x : Nat → Nat) : List Cm := .put true 2 [] (.var 3) (.mak 0 [.cst (.int 0)]) ::
  .kil 3 ::
  []
def p_own_sums_c_b2 (x : Nat → Nat) : List Cm := .set 5 (.cal (x 30) [.var 1, .fld (.var 4) 10]) ::
  .frz 5 ::
  .put true 2 [] (.fld (.var 4) 11) (.met (.ix (.var 2) (.fld (.var 4) 11)) 3 [.var 5]) ::
  .put true 2 [] (.fld (.var 4) 12) (.met (.ix (.var 2) (.fld (.var 4) 12)) 2 [.met (.var 4) 19 [.var 5]]) ::
  .kil 4 ::
  .kil 5 ::
  []
def p_own_sums_c_4 (x : Nat → Nat) : List Cm := .frz 2 ::
  .kil 4 ::
  .kil 5 ::
  .retv 2 ::
  []
def p_own_sums_c_3 (x : Nat → Nat) : List Cm := .for_ (.nm 4) (.seq (.met (.var 0) 26 [])) (p_own_sums_c_b2 x) ::
  p_own_sums_c_4 x
def p_own_sums_c_2 (x : Nat → Nat) : List Cm := .kil 3 ::
  p_own_sums_c_3 x
def p_own_sums_c_1 (x : Nat → Nat) : List Cm := .for_ (.nm 3) (.seq (.met (.var 0) 23 [])) (p_own_sums_c_b1 x) ::
  p_own_sums_c_2 x
def p_own_sums_c (x : Nat → Nat) : List Cm := .set 2 (.dct [] []) ::
  p_own_sums_c_1 x
def p_own_sums (x : Nat → Nat) : Df := ⟨2, 6, (p_own_sums_c x), []⟩
def p_refuse_strangers_c_1 (x : Nat → Nat) : List Cm := .kil 2 ::
  []
def p_refuse_strangers_c (x : Nat → Nat) : List Cm := .for_ (.nm 2) (.seq (.cal (x 31) [.var 0, .var 1])) [.never] ::
  p_refuse_strangers_c_1 x
def p_refuse_strangers (x : Nat → Nat) : Df := ⟨2, 3, (p_refuse_strangers_c x), []⟩
def p_sums (x : Nat → Nat) : Df := ⟨2, 2, [.ex (.cal (x 33) [.var 0, .var 1]),
  .ret (.cal (x 32) [.var 0, .var 1])], []⟩
def p_wants_of_c_b1_1 (x : Nat → Nat) : List Cm := .put true 1 [] (.var 2) (.var 3) ::
  .kil 2 ::
  .kil 3 ::
  []
def p_wants_of_c_b1 (x : Nat → Nat) : List Cm := .ite (.cmp .isin (.var 2) (.var 1)) [.rai 17 [.var 2]] [] ::
  p_wants_of_c_b1_1 x
def p_wants_of_c_2 (x : Nat → Nat) : List Cm := .frz 1 ::
  .kil 2 ::
  .kil 3 ::
  .retv 1 ::
  []
def p_wants_of_c_1 (x : Nat → Nat) : List Cm := .for_ (.tp [.nm 2, .nm 3]) (.seq (.var 0)) (p_wants_of_c_b1 x) ::
  p_wants_of_c_2 x
def p_wants_of_c (x : Nat → Nat) : List Cm := .set 1 (.dct [] []) ::
  p_wants_of_c_1 x
def p_wants_of (x : Nat → Nat) : Df := ⟨1, 4, (p_wants_of_c x), []⟩
def p_ways_of_c_b1_4 (x : Nat → Nat) : List Cm := .put true 2 [] (.fld (.var 3) 10) (.var 3) ::
  .kil 3 ::
  []
def p_ways_of_c_b1_3 (x : Nat → Nat) : List Cm := .ite (.cmp .notin (.fld (.var 3) 12) (.var 0)) [.rai 18 [.fld (.var 3) 12]] [] ::
  p_ways_of_c_b1_4 x
def p_ways_of_c_b1_2 (x : Nat → Nat) : List Cm := .ite (.cmp .notin (.fld (.var 3) 11) (.var 0)) [.rai 18 [.fld (.var 3) 11]] [] ::
  p_ways_of_c_b1_3 x
def p_ways_of_c_b1_1 (x : Nat → Nat) : List Cm := .ite (.cmp .isin (.fld (.var 3) 10) (.var 2)) [.rai 17 [.fld (.var 3) 10]] [] ::
  p_ways_of_c_b1_2 x
def p_ways_of_c_b1 (x : Nat → Nat) : List Cm := .ite (.isi (.var 3) (.cls 4)) [.rai 15 [.fld (.var 3) 10]] [] ::
  p_ways_of_c_b1_1 x
def p_ways_of_c_2 (x : Nat → Nat) : List Cm := .frz 2 ::
  .kil 3 ::
  .retv 2 ::
  []
def p_ways_of_c_1 (x : Nat → Nat) : List Cm := .for_ (.nm 3) (.seq (.var 1)) (p_ways_of_c_b1 x) ::
  p_ways_of_c_2 x
def p_ways_of_c (x : Nat → Nat) : List Cm := .set 2 (.dct [] []) ::
  p_ways_of_c_1 x
def p_ways_of (x : Nat → Nat) : Df := ⟨2, 4, (p_ways_of_c x), []⟩
def p_law_mix (x : Nat → Nat) : Df := ⟨2, 2, [.ite (.and [.cmp .gt (.blt .len [.var 0]) (.cst (.int 0)), .cmp .eq (.op .mod (.ix (.var 0) (.cst (.int 0))) (.cst (.int 2))) (.cst (.int 1))]) [.ret (.ix (.var 0) (.op .mod (.var 1) (.blt .len [.var 0])))] [],
  .ret (.op .mod (.op .mul (.op .mod (.op .mul (.op .add (.op .add (.cal (x 1) [.var 0, .var 1]) (.op .mul (.op .mul (.cst (.int 7)) (.var 1)) (.var 1))) (.cst (.int 11))) (.cst (.int 48271))) (.cst (.int 2147483647))) (.cst (.int 69621))) (.cst (.int 1000000007)))], []⟩
def p_law_plus (x : Nat → Nat) : Df := ⟨2, 2, [.ret (.tup [.op .add (.op .mul (.ix (.var 0) (.cst (.int 0))) (.ix (.var 1) (.cst (.int 1)))) (.op .mul (.ix (.var 1) (.cst (.int 0))) (.ix (.var 0) (.cst (.int 1)))), .op .mul (.ix (.var 0) (.cst (.int 1))) (.ix (.var 1) (.cst (.int 1)))])], []⟩
def p_law_times (x : Nat → Nat) : Df := ⟨2, 2, [.ret (.tup [.op .mul (.ix (.var 0) (.cst (.int 0))) (.ix (.var 1) (.cst (.int 0))), .op .mul (.ix (.var 0) (.cst (.int 1))) (.ix (.var 1) (.cst (.int 1)))])], []⟩
def p_law_high_c_b1 (x : Nat → Nat) : List Cm := .set 3 (.tup [.blt .abs [.ix (.var 3) (.cst (.int 0))], .ix (.var 3) (.cst (.int 1))]) ::
  .frz 3 ::
  []
def p_law_high_c_6 (x : Nat → Nat) : List Cm := .retv 4 ::
  []
def p_law_high_c_5 (x : Nat → Nat) : List Cm := .ite (.cmp .lt (.ix (.var 4) (.cst (.int 0))) (.cst (.int 0))) [.ret (.tup [.cst (.int 0), .cst (.int 1)])] [] ::
  p_law_high_c_6 x
def p_law_high_c_4 (x : Nat → Nat) : List Cm := .set 4 (.cal (x 38) [.var 0, .var 3]) ::
  .frz 4 ::
  p_law_high_c_5 x
def p_law_high_c_3 (x : Nat → Nat) : List Cm := .ite (.cmp .lt (.var 1) (.cst (.int 2))) (p_law_high_c_b1 x) [] ::
  p_law_high_c_4 x
def p_law_high_c_2 (x : Nat → Nat) : List Cm := .set 3 (.ix (.lst [.tup [.cst (.int 0), .cst (.int 1)], .tup [.cst (.int 1), .cst (.int 9)], .tup [.neg (.cst (.int 1)), .cst (.int 9)], .tup [.cst (.int 0), .cst (.int 1)]]) (.op .mod (.var 2) (.cst (.int 4)))) ::
  .frz 3 ::
  p_law_high_c_3 x
def p_law_high_c_1 (x : Nat → Nat) : List Cm := .ite (.cmp .eq (.op .mod (.var 2) (.cst (.int 5))) (.cst (.int 0))) [.ret (.cst .non)] [] ::
  p_law_high_c_2 x
def p_law_high_c (x : Nat → Nat) : List Cm := .ite (.cmp .isN (.var 0) (.cst .non)) [.set 0 (.tup [.cst (.int 0), .cst (.int 1)])] [] ::
  p_law_high_c_1 x
def p_law_high (x : Nat → Nat) : Df := ⟨3, 5, (p_law_high_c x), []⟩
def p_law_row_c_b1 (x : Nat → Nat) : List Cm := .set 7 (.tup [.op .add (.cst (.int 1)) (.op .mod (.op .fdiv (.var 0) (.cst (.int 170))) (.cst (.int 9))), .op .add (.cst (.int 1)) (.op .mod (.op .fdiv (.var 0) (.cst (.int 1530))) (.cst (.int 7)))]) ::
  .frz 7 ::
  []
def p_law_row_c_b2 (x : Nat → Nat) : List Cm := .set 7 (.tup [.op .add (.cst (.int 1)) (.op .mod (.op .fdiv (.var 0) (.cst (.int 170))) (.cst (.int 9))), .cst (.int 10)]) ::
  .frz 7 ::
  []
def p_law_row_c_b3 (x : Nat → Nat) : List Cm := .set 9 (.tup [.blt .abs [.ix (.var 9) (.cst (.int 0))], .ix (.var 9) (.cst (.int 1))]) ::
  .frz 9 ::
  []
def p_law_row_c_b4 (x : Nat → Nat) : List Cm := .set 9 (.cst .non) ::
  .frz 9 ::
  []
def p_law_row_c_6 (x : Nat → Nat) : List Cm := .set 10 (.tup [.op .sub (.op .mod (.op .fdiv (.var 8) (.cst (.int 16560))) (.cst (.int 15))) (.cst (.int 7)), .op .add (.cst (.int 1)) (.op .mod (.op .fdiv (.var 8) (.cst (.int 248400))) (.cst (.int 4)))]) ::
  .frz 10 ::
  .ret (.tup [.var 6, .var 4, .var 5, .var 7, .var 9, .cal (x 40) [.var 9, .var 2, .op .fdiv (.var 8) (.cst (.int 828))], .var 10]) ::
  []
def p_law_row_c_5 (x : Nat → Nat) : List Cm := .ite (.cmp .eq (.op .mod (.op .fdiv (.var 8) (.cst (.int 138))) (.cst (.int 6))) (.cst (.int 0))) (p_law_row_c_b4 x) [] ::
  p_law_row_c_6 x
def p_law_row_c_4 (x : Nat → Nat) : List Cm := .ite (.cmp .lt (.var 2) (.cst (.int 2))) (p_law_row_c_b3 x) [] ::
  p_law_row_c_5 x
def p_law_row_c_3 (x : Nat → Nat) : List Cm := .set 8 (.op .mod (.op .mul (.var 0) (.cst (.int 16807))) (.cst (.int 998244353))) ::
  .frz 8 ::
  .set 9 (.tup [.op .mul (.op .sub (.op .mod (.var 8) (.cst (.int 23))) (.cst (.int 8))) (.var 3), .op .add (.cst (.int 1)) (.op .mod (.op .fdiv (.var 8) (.cst (.int 23))) (.cst (.int 6)))]) ::
  .frz 9 ::
  p_law_row_c_4 x
def p_law_row_c_2 (x : Nat → Nat) : List Cm := .ite (.cmp .eq (.var 6) (.cst (.int 2))) (p_law_row_c_b2 x) [] ::
  p_law_row_c_3 x
def p_law_row_c_1 (x : Nat → Nat) : List Cm := .ite (.cmp .eq (.var 6) (.cst (.int 1))) (p_law_row_c_b1 x) [] ::
  p_law_row_c_2 x
def p_law_row_c (x : Nat → Nat) : List Cm := .set 4 (.op .mod (.var 0) (.var 1)) ::
  .frz 4 ::
  .set 5 (.op .mod (.op .add (.op .add (.var 4) (.cst (.int 1))) (.op .mod (.op .fdiv (.var 0) (.cst (.int 14))) (.op .sub (.var 1) (.cst (.int 1))))) (.var 1)) ::
  .frz 5 ::
  .set 6 (.op .mod (.op .fdiv (.var 0) (.cst (.int 10710))) (.cst (.int 3))) ::
  .frz 6 ::
  .set 7 (.tup [.cst (.int 1), .cst (.int 1)]) ::
  .frz 7 ::
  p_law_row_c_1 x
def p_law_row (x : Nat → Nat) : Df := ⟨4, 11, (p_law_row_c x), []⟩
def p_law_way_c_b1 (x : Nat → Nat) : List Cm := .set 3 (.mak 0 [.ix (.var 10) (.cst (.int 0)), .ix (.var 10) (.cst (.int 1))]) ::
  .frz 3 ::
  []
def p_law_way_c_5 (x : Nat → Nat) : List Cm := .ret (.mak 3 [.var 1, .ix (.var 2) (.var 6), .ix (.var 2) (.var 7), .mak 0 [.op .sub (.ix (.var 8) (.cst (.int 1))) (.ix (.var 8) (.cst (.int 0))), .ix (.var 8) (.cst (.int 1))], .var 3, .var 4]) ::
  []
def p_law_way_c_4 (x : Nat → Nat) : List Cm := .ite (.cmp .eq (.var 5) (.cst (.int 1))) [.ret (.mak 2 [.var 1, .ix (.var 2) (.var 6), .ix (.var 2) (.var 7), .mak 0 [.ix (.var 8) (.cst (.int 0)), .ix (.var 8) (.cst (.int 1))], .var 3, .var 4])] [] ::
  p_law_way_c_5 x
def p_law_way_c_3 (x : Nat → Nat) : List Cm := .ite (.cmp .eq (.var 5) (.cst (.int 0))) [.ret (.mak 1 [.var 1, .ix (.var 2) (.var 6), .ix (.var 2) (.var 7), .var 3, .var 4])] [] ::
  p_law_way_c_4 x
def p_law_way_c_2 (x : Nat → Nat) : List Cm := .set 4 (.mak 0 [.ix (.var 11) (.cst (.int 0)), .ix (.var 11) (.cst (.int 1))]) ::
  .frz 4 ::
  p_law_way_c_3 x
def p_law_way_c_1 (x : Nat → Nat) : List Cm := .ite (.cmp .notN (.var 10) (.cst .non)) (p_law_way_c_b1 x) [] ::
  p_law_way_c_2 x
def p_law_way_c (x : Nat → Nat) : List Cm := .unp (.tp [.nm 5, .nm 6, .nm 7, .nm 8, .nm 9, .nm 10, .nm 11]) (.var 0) ::
  .frz 5 ::
  .frz 6 ::
  .frz 7 ::
  .frz 8 ::
  .frz 9 ::
  .frz 10 ::
  .frz 11 ::
  .set 3 (.cst .non) ::
  .frz 3 ::
  p_law_way_c_1 x
def p_law_way (x : Nat → Nat) : Df := ⟨3, 12, (p_law_way_c x), []⟩
def p_Net__init (x : Nat → Nat) : Df := ⟨3, 3, [.ite (.or [.cmp .gt (.blt .len [.var 1]) (.glb 0), .cmp .gt (.blt .len [.var 2]) (.glb 1)]) [.rai 9 []] [],
  .fput true 0 [] 21 (.cal (x 35) [.var 1]),
  .fput true 0 [] 22 (.cal (x 36) [.fld (.var 0) 21, .var 2])], []⟩
def p_Net_names (x : Nat → Nat) : Df := ⟨1, 1, [.ret (.blt .list [.fld (.var 0) 21])], []⟩
def p_Net_want (x : Nat → Nat) : Df := ⟨2, 2, [.ite (.cmp .notin (.var 1) (.fld (.var 0) 21)) [.rai 18 [.var 1]] [],
  .ret (.ix (.fld (.var 0) 21) (.var 1))], []⟩
def p_Net_way (x : Nat → Nat) : Df := ⟨2, 2, [.ite (.cmp .notin (.var 1) (.fld (.var 0) 22)) [.rai 15 [.var 1]] [],
  .ret (.ix (.fld (.var 0) 22) (.var 1))], []⟩
def p_Net_all_ways (x : Nat → Nat) : Df := ⟨1, 1, [.ret (.bmt .vals (.fld (.var 0) 22) [])], []⟩
def p_worth (x : Nat → Nat) : Df := ⟨2, 3, [.ex (.cal (x 33) [.var 0, .var 1]),
  .ret (.cal (x 3) [.cmpr (.met (.cal (x 30) [.var 1, .fld (.var 2) 10]) 4 [.fld (.var 2) 14]) (.nm 2) (.seq (.met (.var 0) 26 [])) []])], []⟩
def p_together_c_b1_2 (x : Nat → Nat) : List Cm := .kil 3 ::
  .kil 4 ::
  []
def p_together_c_b1_1 (x : Nat → Nat) : List Cm := .ite (.cmp .ne (.met (.var 4) 8 []) (.cst (.int 0))) [.put true 2 [] (.var 3) (.var 4)] [] ::
  p_together_c_b1_2 x
def p_together_c_b1 (x : Nat → Nat) : List Cm := .set 4 (.met (.cal (x 30) [.var 0, .var 3]) 2 [.cal (x 30) [.var 1, .var 3]]) ::
  .frz 4 ::
  p_together_c_b1_1 x
def p_together_c_2 (x : Nat → Nat) : List Cm := .frz 2 ::
  .kil 3 ::
  .kil 4 ::
  .retv 2 ::
  []
def p_together_c_1 (x : Nat → Nat) : List Cm := .for_ (.nm 3) (.seq (.op .cat (.blt .list [.var 0]) (.blt .list [.var 1]))) (p_together_c_b1 x) ::
  p_together_c_2 x
def p_together_c (x : Nat → Nat) : List Cm := .set 2 (.dct [] []) ::
  p_together_c_1 x
def p_together (x : Nat → Nat) : Df := ⟨2, 5, (p_together_c x), []⟩
def p_scaled_c_b1_1 (x : Nat → Nat) : List Cm := .kil 3 ::
  .kil 4 ::
  []
def p_scaled_c_b1 (x : Nat → Nat) : List Cm := .ite (.cmp .ne (.met (.met (.var 4) 4 [.var 1]) 8 []) (.cst (.int 0))) [.put true 2 [] (.var 3) (.met (.var 4) 4 [.var 1])] [] ::
  p_scaled_c_b1_1 x
def p_scaled_c_2 (x : Nat → Nat) : List Cm := .frz 2 ::
  .kil 3 ::
  .kil 4 ::
  .retv 2 ::
  []
def p_scaled_c_1 (x : Nat → Nat) : List Cm := .for_ (.tp [.nm 3, .nm 4]) (.items (.var 0)) (p_scaled_c_b1 x) ::
  p_scaled_c_2 x
def p_scaled_c (x : Nat → Nat) : List Cm := .set 2 (.dct [] []) ::
  p_scaled_c_1 x
def p_scaled (x : Nat → Nat) : Df := ⟨2, 5, (p_scaled_c x), []⟩
def p_walk_ways_c_b1_2 (x : Nat → Nat) : List Cm := .app true 2 [] (.var 4) ::
  .kil 3 ::
  .kil 4 ::
  []
def p_walk_ways_c_b1_1 (x : Nat → Nat) : List Cm := .ite (.and [.cmp .gt (.blt .len [.var 2]) (.cst (.int 0)), .cmp .ne (.fld (.var 4) 11) (.fld (.ix (.var 2) (.neg (.cst (.int 1)))) 12)]) [.rai 16 [.var 3]] [] ::
  p_walk_ways_c_b1_2 x
def p_walk_ways_c_b1 (x : Nat → Nat) : List Cm := .set 4 (.met (.var 0) 25 [.var 3]) ::
  .frz 4 ::
  p_walk_ways_c_b1_1 x
def p_walk_ways_c_2 (x : Nat → Nat) : List Cm := .frz 2 ::
  .kil 3 ::
  .kil 4 ::
  .retv 2 ::
  []
def p_walk_ways_c_1 (x : Nat → Nat) : List Cm := .for_ (.nm 3) (.seq (.var 1)) (p_walk_ways_c_b1 x) ::
  p_walk_ways_c_2 x
def p_walk_ways_c (x : Nat → Nat) : List Cm := .set 2 (.lst []) ::
  p_walk_ways_c_1 x
def p_walk_ways (x : Nat → Nat) : Df := ⟨2, 5, (p_walk_ways_c x), []⟩
def p_places_of (x : Nat → Nat) : Df := ⟨2, 4, [.set 2 (.cal (x 51) [.var 0, .var 1]),
  .frz 2,
  .ite (.cmp .eq (.blt .len [.var 2]) (.cst (.int 0))) [.ret (.lst [])] [],
  .ret (.op .cat (.lst [.fld (.ix (.var 2) (.cst (.int 0))) 11]) (.cmpr (.fld (.var 3) 12) (.nm 3) (.seq (.var 2)) []))], []⟩
def p_gain_of_c_b1 (x : Nat → Nat) : List Cm := .set 2 (.met (.var 2) 4 [.met (.var 3) 18 []]) ::
  .frz 2 ::
  .kil 3 ::
  []
def p_gain_of_c_2 (x : Nat → Nat) : List Cm := .kil 3 ::
  .retv 2 ::
  []
def p_gain_of_c_1 (x : Nat → Nat) : List Cm := .for_ (.nm 3) (.seq (.cal (x 51) [.var 0, .var 1])) (p_gain_of_c_b1 x) ::
  p_gain_of_c_2 x
def p_gain_of_c (x : Nat → Nat) : List Cm := .set 2 (.mak 0 [.cst (.int 1)]) ::
  .frz 2 ::
  p_gain_of_c_1 x
def p_gain_of (x : Nat → Nat) : Df := ⟨2, 4, (p_gain_of_c x), []⟩
def p_law_cell_at_2 (x : Nat → Nat) : Df := ⟨2, 2, [.ite (.cmp .lt (.var 1) (.blt .len [.var 0])) [.ret (.ix (.var 0) (.var 1))] [],
  .ite (.cmp .eq (.blt .len [.var 0]) (.cst (.int 0))) [.ret (.cst (.int 0))] [],
  .ret (.op .mod (.op .mul (.ix (.var 0) (.op .mod (.var 1) (.blt .len [.var 0]))) (.op .add (.cst (.int 48271)) (.op .mul (.var 1) (.var 1)))) (.cst (.int 1000003)))], []⟩
def p_law_names (x : Nat → Nat) : Df := ⟨2, 6, [.set 2 (.cst (.str "abcdefghijklmnopqrstuvwxyz0123456789.")),
  .frz 2,
  .ite (.cmp .eq (.op .mod (.var 0) (.cst (.int 4))) (.cst (.int 3))) [.ret (.cmpr (.op .mul (.ix (.var 2) (.op .mod (.op .fdiv (.var 0) (.cst (.int 4))) (.cst (.int 37)))) (.op .add (.var 5) (.cst (.int 1)))) (.nm 5) (.rng1 (.var 1)) [])] [],
  .set 3 (.op .mul (.ix (.var 2) (.op .mod (.op .fdiv (.var 0) (.cst (.int 4))) (.cst (.int 37)))) (.ix (.lst [.cst (.int 0), .cst (.int 1), .cst (.int 3), .cst (.int 59)]) (.op .mod (.op .fdiv (.var 0) (.cst (.int 148))) (.cst (.int 4))))),
  .frz 3,
  .set 4 (.op .mod (.op .fdiv (.var 0) (.cst (.int 592))) (.op .add (.blt .len [.var 3]) (.cst (.int 1)))),
  .frz 4,
  .ret (.cmpr (.op .add (.op .add (.slc (.var 3) none (some (.var 4))) (.ix (.var 2) (.op .mod (.op .add (.var 5) (.op .fdiv (.var 0) (.cst (.int 7)))) (.cst (.int 37))))) (.slc (.var 3) (some (.var 4)) none)) (.nm 5) (.rng1 (.var 1)) [])], []⟩
def p_law_gain (x : Nat → Nat) : Df := ⟨1, 1, [.ite (.cmp .eq (.op .mod (.var 0) (.cst (.int 3))) (.cst (.int 0))) [.ret (.tup [.cst (.int 1), .cst (.int 1)])] [],
  .ite (.cmp .eq (.op .mod (.var 0) (.cst (.int 16))) (.cst (.int 1))) [.ret (.tup [.op .add (.cst (.int 1)) (.op .mod (.var 0) (.op .pow (.cst (.int 10)) (.cst (.int 20)))), .op .add (.cst (.int 1)) (.op .mod (.op .fdiv (.var 0) (.cst (.int 7))) (.op .pow (.cst (.int 10)) (.cst (.int 15))))])] [],
  .ret (.tup [.op .add (.cst (.int 1)) (.op .mod (.op .fdiv (.var 0) (.cst (.int 3))) (.cst (.int 9))), .op .add (.cst (.int 1)) (.op .mod (.op .fdiv (.var 0) (.cst (.int 27))) (.cst (.int 9)))])], []⟩
def p_law_way_2 (x : Nat → Nat) : Df := ⟨2, 3, [.set 2 (.ix (.var 1) (.cst (.int 2))),
  .frz 2,
  .ite (.and [.cmp .eq (.ix (.var 2) (.cst (.int 0))) (.ix (.var 2) (.cst (.int 1))), .cmp .eq (.ix (.var 1) (.cst (.int 3))) (.cst (.int 0))]) [.ret (.mak 1 [.var 0, .ix (.var 1) (.cst (.int 0)), .ix (.var 1) (.cst (.int 1))])] [],
  .ite (.and [.cmp .le (.ix (.var 2) (.cst (.int 0))) (.ix (.var 2) (.cst (.int 1))), .cmp .eq (.ix (.var 1) (.cst (.int 3))) (.cst (.int 1))]) [.ret (.mak 3 [.var 0, .ix (.var 1) (.cst (.int 0)), .ix (.var 1) (.cst (.int 1)), .mak 0 [.op .sub (.ix (.var 2) (.cst (.int 1))) (.ix (.var 2) (.cst (.int 0))), .ix (.var 2) (.cst (.int 1))]])] [],
  .ret (.mak 2 [.var 0, .ix (.var 1) (.cst (.int 0)), .ix (.var 1) (.cst (.int 1)), .mak 0 [.ix (.var 2) (.cst (.int 0)), .ix (.var 2) (.cst (.int 1))]])], []⟩
def p_law_spots (x : Nat → Nat) : Df := ⟨1, 3, [.set 1 (.cal (x 54) [.var 0, .cst (.int 0)]),
  .frz 1,
  .set 2 (.op .add (.cst (.int 2)) (.op .mod (.var 1) (.cst (.int 6)))),
  .frz 2,
  .ite (.cmp .eq (.op .mod (.op .fdiv (.var 1) (.cst (.int 6))) (.cst (.int 8))) (.cst (.int 1))) [.set 2 (.cst (.int 12)), .frz 2] [],
  .ret (.cal (x 55) [.cal (x 54) [.var 0, .cst (.int 1)], .var 2])], []⟩
def p_law_ways_c_b2 (x : Nat → Nat) : List Cm := .set 8 (.op .mod (.var 7) (.var 4)) ::
  .frz 8 ::
  .set 9 (.op .mod (.op .add (.op .add (.var 8) (.cst (.int 1))) (.op .mod (.op .fdiv (.var 7) (.var 4)) (.op .sub (.var 4) (.cst (.int 1))))) (.var 4)) ::
  .frz 9 ::
  []
def p_law_ways_c_b1_2 (x : Nat → Nat) : List Cm := .set 10 (.cal (x 56) [.cal (x 54) [.var 0, .op .add (.cst (.int 7)) (.op .mul (.cst (.int 2)) (.var 6))]]) ::
  .frz 10 ::
  .put true 5 [] (.ix (.var 3) (.var 6)) (.tup [.ix (.var 1) (.var 8), .ix (.var 1) (.var 9), .var 10, .op .mod (.op .fdiv (.var 7) (.cst (.int 5))) (.cst (.int 3))]) ::
  .kil 6 ::
  .kil 7 ::
  .kil 8 ::
  .kil 9 ::
  .kil 10 ::
  []
def p_law_ways_c_b1_1 (x : Nat → Nat) : List Cm := .ite (.cmp .ge (.var 6) (.var 4)) (p_law_ways_c_b2 x) [] ::
  p_law_ways_c_b1_2 x
def p_law_ways_c_b1 (x : Nat → Nat) : List Cm := .set 7 (.cal (x 54) [.var 0, .op .add (.cst (.int 6)) (.op .mul (.cst (.int 2)) (.var 6))]) ::
  .frz 7 ::
  .set 8 (.op .mod (.var 6) (.var 4)) ::
  .frz 8 ::
  .set 9 (.op .mod (.op .add (.var 6) (.cst (.int 1))) (.var 4)) ::
  .frz 9 ::
  p_law_ways_c_b1_1 x
def p_law_ways_c_2 (x : Nat → Nat) : List Cm := .frz 5 ::
  .kil 6 ::
  .kil 7 ::
  .kil 8 ::
  .kil 9 ::
  .kil 10 ::
  .retv 5 ::
  []
def p_law_ways_c_1 (x : Nat → Nat) : List Cm := .for_ (.nm 6) (.rng1 (.var 2)) (p_law_ways_c_b1 x) ::
  p_law_ways_c_2 x
def p_law_ways_c (x : Nat → Nat) : List Cm := .set 3 (.cal (x 55) [.cal (x 54) [.var 0, .cst (.int 2)], .var 2]) ::
  .frz 3 ::
  .set 4 (.blt .len [.var 1]) ::
  .frz 4 ::
  .set 5 (.dct [] []) ::
  p_law_ways_c_1 x
def p_law_ways (x : Nat → Nat) : Df := ⟨3, 11, (p_law_ways_c x), []⟩
def p_law_net (x : Nat → Nat) : Df := ⟨2, 4, [.ret (.mak 5 [.cmpr (.tup [.var 2, .mak 0 [.cst (.int 0)]]) (.nm 2) (.seq (.var 0)) [], .cmpr (.cal (x 57) [.var 3, .ix (.var 1) (.var 3)]) (.nm 3) (.seq (.var 1)) []])], []⟩
def p_law_walk_c_b1 (x : Nat → Nat) : List Cm := .set 6 (.cmpr (.var 7) (.nm 7) (.seq (.var 1)) [.cmp .eq (.ix (.ix (.var 1) (.var 7)) (.cst (.int 0))) (.var 2)]) ::
  .frz 6 ::
  .app true 4 [] (.ix (.var 6) (.op .mod (.cal (x 54) [.var 0, .op .add (.cst (.int 38)) (.var 5)]) (.blt .len [.var 6]))) ::
  .set 2 (.ix (.ix (.var 1) (.ix (.var 4) (.neg (.cst (.int 1))))) (.cst (.int 1))) ::
  .kil 5 ::
  .kil 6 ::
  []
def p_law_walk_c_2 (x : Nat → Nat) : List Cm := .frz 4 ::
  .kil 5 ::
  .kil 6 ::
  .retv 4 ::
  []
def p_law_walk_c_1 (x : Nat → Nat) : List Cm := .for_ (.nm 5) (.rng1 (.var 3)) (p_law_walk_c_b1 x) ::
  p_law_walk_c_2 x
def p_law_walk_c (x : Nat → Nat) : List Cm := .set 4 (.lst []) ::
  p_law_walk_c_1 x
def p_law_walk (x : Nat → Nat) : Df := ⟨4, 8, (p_law_walk_c x), []⟩
def p_law_is_2_c_b1_1 (x : Nat → Nat) : List Cm := .kil 2 ::
  []
def p_law_is_2_c_b1 (x : Nat → Nat) : List Cm := .ite (.or [.not (.isi (.var 2) .int), .isi (.var 2) .bool]) [.ret (.cst (.bl false))] [] ::
  p_law_is_2_c_b1_1 x
def p_law_is_2_c_2 (x : Nat → Nat) : List Cm := .kil 2 ::
  .ret (.and [.cmp .gt (.fld (.var 0) 1) (.cst (.int 0)), .cmp .eq (.op .mul (.fld (.var 0) 0) (.ix (.var 1) (.cst (.int 1)))) (.op .mul (.ix (.var 1) (.cst (.int 0))) (.fld (.var 0) 1))]) ::
  []
def p_law_is_2_c_1 (x : Nat → Nat) : List Cm := .for_ (.nm 2) (.seq (.lst [.fld (.var 0) 0, .fld (.var 0) 1])) (p_law_is_2_c_b1 x) ::
  p_law_is_2_c_2 x
def p_law_is_2_c (x : Nat → Nat) : List Cm := .ite (.not (.isi (.var 0) (.cls 0))) [.ret (.cst (.bl false))] [] ::
  p_law_is_2_c_1 x
def p_law_is_2 (x : Nat → Nat) : Df := ⟨2, 3, (p_law_is_2_c x), []⟩
def p_sent_c_b1_1 (x : Nat → Nat) : List Cm := .set 2 (.met (.var 4) 19 [.var 2]) ::
  .kil 4 ::
  []
def p_sent_c_b1 (x : Nat → Nat) : List Cm := .ite (.cmp .ne (.met (.var 2) 8 []) (.cst (.int 0))) [.put true 3 [] (.fld (.var 4) 10) (.met (.bmt .get2 (.var 3) [.fld (.var 4) 10, .mak 0 [.cst (.int 0)]]) 2 [.var 2])] [] ::
  p_sent_c_b1_1 x
def p_sent_c_2 (x : Nat → Nat) : List Cm := .frz 3 ::
  .kil 4 ::
  .retv 3 ::
  []
def p_sent_c_1 (x : Nat → Nat) : List Cm := .for_ (.nm 4) (.seq (.cal (x 51) [.var 0, .var 1])) (p_sent_c_b1 x) ::
  p_sent_c_2 x
def p_sent_c (x : Nat → Nat) : List Cm := .set 3 (.dct [] []) ::
  p_sent_c_1 x
def p_sent (x : Nat → Nat) : Df := ⟨3, 5, (p_sent_c x), []⟩
def p_turned_line_c_b2 (x : Nat → Nat) : List Cm := .ite (.cmp .eq (.fld (.ix (.var 0) (.var 4)) 0) (.cst (.int 0))) [.app true 3 [] (.ix (.var 0) (.var 4))] [.app true 3 [] (.met (.mak 0 [.cst (.int 0)]) 3 [.met (.ix (.var 0) (.var 4)) 5 [.var 2]])] ::
  []
def p_turned_line_c_b1_1 (x : Nat → Nat) : List Cm := .kil 4 ::
  []
def p_turned_line_c_b1 (x : Nat → Nat) : List Cm := .ite (.cmp .eq (.var 4) (.op .add (.var 1) (.cst (.int 1)))) [.app true 3 [] (.met (.mak 0 [.cst (.int 1)]) 5 [.var 2])] (p_turned_line_c_b2 x) ::
  p_turned_line_c_b1_1 x
def p_turned_line_c_2 (x : Nat → Nat) : List Cm := .frz 3 ::
  .kil 4 ::
  .retv 3 ::
  []
def p_turned_line_c_1 (x : Nat → Nat) : List Cm := .for_ (.nm 4) (.rng1 (.blt .len [.var 0])) (p_turned_line_c_b1 x) ::
  p_turned_line_c_2 x
def p_turned_line_c (x : Nat → Nat) : List Cm := .set 2 (.ix (.var 0) (.op .add (.var 1) (.cst (.int 1)))) ::
  .frz 2 ::
  .set 3 (.lst []) ::
  p_turned_line_c_1 x
def p_turned_line (x : Nat → Nat) : Df := ⟨2, 5, (p_turned_line_c x), []⟩
def p_filled_line_c_b2 (x : Nat → Nat) : List Cm := .ite (.cmp .eq (.fld (.var 6) 0) (.cst (.int 0))) [.app true 4 [] (.ix (.var 0) (.var 5))] [.app true 4 [] (.met (.ix (.var 0) (.var 5)) 2 [.var 6])] ::
  []
def p_filled_line_c_b1_2 (x : Nat → Nat) : List Cm := .kil 5 ::
  .kil 6 ::
  []
def p_filled_line_c_b1_1 (x : Nat → Nat) : List Cm := .ite (.cmp .eq (.var 5) (.op .add (.var 2) (.cst (.int 1)))) [.app true 4 [] (.var 6)] (p_filled_line_c_b2 x) ::
  p_filled_line_c_b1_2 x
def p_filled_line_c_b1 (x : Nat → Nat) : List Cm := .set 6 (.met (.ix (.var 1) (.var 5)) 4 [.var 3]) ::
  .frz 6 ::
  p_filled_line_c_b1_1 x
def p_filled_line_c_4 (x : Nat → Nat) : List Cm := .frz 4 ::
  .kil 5 ::
  .kil 6 ::
  .retv 4 ::
  []
def p_filled_line_c_3 (x : Nat → Nat) : List Cm := .for_ (.nm 5) (.rng1 (.blt .len [.var 0])) (p_filled_line_c_b1 x) ::
  p_filled_line_c_4 x
def p_filled_line_c_2 (x : Nat → Nat) : List Cm := .set 4 (.lst []) ::
  p_filled_line_c_3 x
def p_filled_line_c_1 (x : Nat → Nat) : List Cm := .ite (.cmp .eq (.fld (.var 3) 0) (.cst (.int 0))) [.ret (.blt .list [.var 0])] [] ::
  p_filled_line_c_2 x
def p_filled_line_c (x : Nat → Nat) : List Cm := .set 3 (.ix (.var 0) (.op .add (.var 2) (.cst (.int 1)))) ::
  .frz 3 ::
  p_filled_line_c_1 x
def p_filled_line (x : Nat → Nat) : Df := ⟨3, 7, (p_filled_line_c x), []⟩
def p_exchanged_c_b1_1 (x : Nat → Nat) : List Cm := .kil 8 ::
  []
def p_exchanged_c_b1 (x : Nat → Nat) : List Cm := .ite (.cmp .eq (.var 8) (.var 1)) [.app true 7 [] (.blt .list [.var 6])] [.app true 7 [] (.cal (x 65) [.ix (.var 5) (.var 8), .var 6, .var 2])] ::
  p_exchanged_c_b1_1 x
def p_exchanged_c_4 (x : Nat → Nat) : List Cm := .frz 7 ::
  .kil 8 ::
  .set 9 (.ix (.var 3) (.var 1)) ::
  .frz 9 ::
  .put true 3 [] (.var 1) (.ix (.var 4) (.var 2)) ::
  .frz 3 ::
  .put true 4 [] (.var 2) (.var 9) ::
  .frz 4 ::
  .ret (.tup [.var 3, .var 4, .var 7]) ::
  []
def p_exchanged_c_3 (x : Nat → Nat) : List Cm := .for_ (.nm 8) (.rng1 (.blt .len [.var 5])) (p_exchanged_c_b1 x) ::
  p_exchanged_c_4 x
def p_exchanged_c_2 (x : Nat → Nat) : List Cm := .set 6 (.cal (x 64) [.ix (.var 5) (.var 1), .var 2]) ::
  .frz 6 ::
  .set 7 (.lst []) ::
  p_exchanged_c_3 x
def p_exchanged_c_1 (x : Nat → Nat) : List Cm := .ite (.cmp .eq (.fld (.ix (.ix (.var 5) (.var 1)) (.op .add (.var 2) (.cst (.int 1)))) 0) (.cst (.int 0))) [.rai 12 []] [] ::
  p_exchanged_c_2 x
def p_exchanged_c (x : Nat → Nat) : List Cm := .set 3 (.blt .list [.ix (.var 0) (.cst (.int 0))]) ::
  .set 4 (.blt .list [.ix (.var 0) (.cst (.int 1))]) ::
  .set 5 (.ix (.var 0) (.cst (.int 2))) ::
  .frz 5 ::
  p_exchanged_c_1 x
def p_exchanged (x : Nat → Nat) : Df := ⟨3, 10, (p_exchanged_c x), []⟩
def p_place_row_c_b2 (x : Nat → Nat) : List Cm := .set 4 (.mak 0 [.cst (.int 1)]) ::
  .frz 4 ::
  []
def p_place_row_c_b3 (x : Nat → Nat) : List Cm := .set 4 (.met (.var 4) 3 [.met (.var 3) 18 []]) ::
  .frz 4 ::
  []
def p_place_row_c_b1_3 (x : Nat → Nat) : List Cm := .app true 2 [] (.var 4) ::
  .kil 3 ::
  .kil 4 ::
  []
def p_place_row_c_b1_2 (x : Nat → Nat) : List Cm := .ite (.cmp .eq (.fld (.var 3) 12) (.var 1)) (p_place_row_c_b3 x) [] ::
  p_place_row_c_b1_3 x
def p_place_row_c_b1_1 (x : Nat → Nat) : List Cm := .ite (.cmp .eq (.fld (.var 3) 11) (.var 1)) (p_place_row_c_b2 x) [] ::
  p_place_row_c_b1_2 x
def p_place_row_c_b1 (x : Nat → Nat) : List Cm := .set 4 (.mak 0 [.cst (.int 0)]) ::
  .frz 4 ::
  p_place_row_c_b1_1 x
def p_place_row_c_2 (x : Nat → Nat) : List Cm := .frz 2 ::
  .kil 3 ::
  .kil 4 ::
  .retv 2 ::
  []
def p_place_row_c_1 (x : Nat → Nat) : List Cm := .for_ (.nm 3) (.seq (.var 0)) (p_place_row_c_b1 x) ::
  p_place_row_c_2 x
def p_place_row_c (x : Nat → Nat) : List Cm := .set 2 (.lst []) ::
  p_place_row_c_1 x
def p_place_row (x : Nat → Nat) : Df := ⟨2, 5, (p_place_row_c x), []⟩
def p_high_row_c_b1_1 (x : Nat → Nat) : List Cm := .kil 3 ::
  []
def p_high_row_c_b1 (x : Nat → Nat) : List Cm := .ite (.cmp .eq (.fld (.var 3) 10) (.var 1)) [.app true 2 [] (.mak 0 [.cst (.int 1)])] [.app true 2 [] (.mak 0 [.cst (.int 0)])] ::
  p_high_row_c_b1_1 x
def p_high_row_c_2 (x : Nat → Nat) : List Cm := .frz 2 ::
  .kil 3 ::
  .retv 2 ::
  []
def p_high_row_c_1 (x : Nat → Nat) : List Cm := .for_ (.nm 3) (.seq (.var 0)) (p_high_row_c_b1 x) ::
  p_high_row_c_2 x
def p_high_row_c (x : Nat → Nat) : List Cm := .set 2 (.lst []) ::
  p_high_row_c_1 x
def p_high_row (x : Nat → Nat) : Df := ⟨2, 4, (p_high_row_c x), []⟩
def p_rows_of_c_b1 (x : Nat → Nat) : List Cm := .app true 2 [] (.cal (x 67) [.var 1, .var 4]) ::
  .app true 3 [] (.met (.mak 0 [.cst (.int 0)]) 3 [.met (.var 0) 24 [.var 4]]) ::
  .kil 4 ::
  []
def p_rows_of_c_b3 (x : Nat → Nat) : List Cm := .app true 2 [] (.cal (x 68) [.var 1, .fld (.var 5) 10]) ::
  .app true 3 [] (.fld (.var 5) 13) ::
  []
def p_rows_of_c_b2 (x : Nat → Nat) : List Cm := .ite (.cmp .notN (.fld (.var 5) 13) (.cst .non)) (p_rows_of_c_b3 x) [] ::
  []
def p_rows_of_c_4 (x : Nat → Nat) : List Cm := .frz 2 ::
  .frz 3 ::
  .set 6 (.cmpr (.met (.mak 0 [.cst (.int 0)]) 3 [.fld (.var 5) 14]) (.nm 5) (.seq (.var 1)) []) ::
  .frz 6 ::
  .ret (.tup [.var 2, .var 3, .var 6]) ::
  []
def p_rows_of_c_3 (x : Nat → Nat) : List Cm := .for_ (.nm 5) (.seq (.var 1)) (p_rows_of_c_b2 x) ::
  p_rows_of_c_4 x
def p_rows_of_c_2 (x : Nat → Nat) : List Cm := .kil 4 ::
  p_rows_of_c_3 x
def p_rows_of_c_1 (x : Nat → Nat) : List Cm := .for_ (.nm 4) (.seq (.met (.var 0) 23 [])) (p_rows_of_c_b1 x) ::
  p_rows_of_c_2 x
def p_rows_of_c (x : Nat → Nat) : List Cm := .set 1 (.met (.var 0) 26 []) ::
  .frz 1 ::
  .set 2 (.lst []) ::
  .set 3 (.lst []) ::
  p_rows_of_c_1 x
def p_rows_of (x : Nat → Nat) : Df := ⟨1, 7, (p_rows_of_c x), []⟩
def p_strangers_2 (x : Nat → Nat) : Df := ⟨2, 5, [.set 2 (.cmpr (.fld (.var 3) 10) (.nm 3) (.seq (.met (.var 0) 26 [])) []),
  .frz 2,
  .ret (.cmpr (.var 4) (.nm 4) (.keys (.var 1)) [.cmp .notin (.var 4) (.var 2)])], []⟩
def p_refuse_strangers_2_c_b1 (x : Nat → Nat) : List Cm := .rai 15 [.var 2] ::
  .kil 2 ::
  []
def p_refuse_strangers_2_c_1 (x : Nat → Nat) : List Cm := .kil 2 ::
  []
def p_refuse_strangers_2_c (x : Nat → Nat) : List Cm := .for_ (.nm 2) (.seq (.cal (x 70) [.var 0, .var 1])) (p_refuse_strangers_2_c_b1 x) ::
  p_refuse_strangers_2_c_1 x
def p_refuse_strangers_2 (x : Nat → Nat) : Df := ⟨2, 3, (p_refuse_strangers_2_c x), []⟩
def p_sums_2 (x : Nat → Nat) : Df := ⟨2, 2, [.ex (.cal (x 71) [.var 0, .var 1]),
  .ret (.cal (x 32) [.var 0, .var 1])], []⟩
def p_worth_2 (x : Nat → Nat) : Df := ⟨2, 3, [.ex (.cal (x 71) [.var 0, .var 1]),
  .ret (.cal (x 3) [.cmpr (.met (.cal (x 30) [.var 1, .fld (.var 2) 10]) 4 [.fld (.var 2) 14]) (.nm 2) (.seq (.met (.var 0) 26 [])) []])], []⟩
def p_law_net_2 (x : Nat → Nat) : Df := ⟨2, 4, [.ret (.mak 5 [.cmpr (.tup [.var 2, .mak 0 [.cst (.int 0)]]) (.nm 2) (.seq (.var 0)) [], .cmpr (.cal (x 57) [.var 3, .ix (.var 1) (.var 3)]) (.nm 3) (.keys (.var 1)) []])], []⟩
def p_law_walk_2_c_b1 (x : Nat → Nat) : List Cm := .set 6 (.cmpr (.var 7) (.nm 7) (.keys (.var 1)) [.cmp .eq (.ix (.ix (.var 1) (.var 7)) (.cst (.int 0))) (.var 2)]) ::
  .frz 6 ::
  .app true 4 [] (.ix (.var 6) (.op .mod (.cal (x 54) [.var 0, .op .add (.cst (.int 38)) (.var 5)]) (.blt .len [.var 6]))) ::
  .set 2 (.ix (.ix (.var 1) (.ix (.var 4) (.neg (.cst (.int 1))))) (.cst (.int 1))) ::
  .kil 5 ::
  .kil 6 ::
  []
def p_law_walk_2_c_2 (x : Nat → Nat) : List Cm := .frz 4 ::
  .kil 5 ::
  .kil 6 ::
  .retv 4 ::
  []
def p_law_walk_2_c_1 (x : Nat → Nat) : List Cm := .for_ (.nm 5) (.rng1 (.var 3)) (p_law_walk_2_c_b1 x) ::
  p_law_walk_2_c_2 x
def p_law_walk_2_c (x : Nat → Nat) : List Cm := .set 4 (.lst []) ::
  p_law_walk_2_c_1 x
def p_law_walk_2 (x : Nat → Nat) : Df := ⟨4, 8, (p_law_walk_2_c x), []⟩
def p_law_number_by (x : Nat → Nat) : Df := ⟨1, 1, [.ite (.cmp .eq (.op .mod (.var 0) (.cst (.int 5))) (.cst (.int 0))) [.ret (.op .sub (.op .mod (.op .mul (.op .mul (.op .fdiv (.var 0) (.cst (.int 5))) (.cst (.int 982451653))) (.op .pow (.cst (.int 10)) (.cst (.int 50)))) (.op .add (.op .mul (.cst (.int 2)) (.op .pow (.cst (.int 10)) (.cst (.int 60)))) (.cst (.int 1)))) (.op .pow (.cst (.int 10)) (.cst (.int 60))))] [],
  .ite (.cmp .eq (.op .mod (.var 0) (.cst (.int 5))) (.cst (.int 1))) [.ret (.op .sub (.op .mod (.op .fdiv (.var 0) (.cst (.int 5))) (.cst (.int 2001))) (.cst (.int 1000)))] [],
  .ret (.op .sub (.op .mod (.op .fdiv (.var 0) (.cst (.int 5))) (.cst (.int 13))) (.cst (.int 6)))], []⟩
def p_law_kinds_c_b1 (x : Nat → Nat) : List Cm := .app true 1 [] (.cst (.str "no ValueError")) ::
  .frz 1 ::
  []
def p_law_kinds_c_11 (x : Nat → Nat) : List Cm := .frz 1 ::
  .retv 1 ::
  []
def p_law_kinds_c_10 (x : Nat → Nat) : List Cm := .ite (.not (.isi (.var 0) .verr)) (p_law_kinds_c_b1 x) [] ::
  p_law_kinds_c_11 x
def p_law_kinds_c_9 (x : Nat → Nat) : List Cm := .ite (.isi (.var 0) (.cls 20)) [.app true 1 [] (.cst (.str "Short"))] [] ::
  p_law_kinds_c_10 x
def p_law_kinds_c_8 (x : Nat → Nat) : List Cm := .ite (.isi (.var 0) (.cls 19)) [.app true 1 [] (.cst (.str "OverBound"))] [] ::
  p_law_kinds_c_9 x
def p_law_kinds_c_7 (x : Nat → Nat) : List Cm := .ite (.isi (.var 0) (.cls 18)) [.app true 1 [] (.cst (.str "NoPlace"))] [] ::
  p_law_kinds_c_8 x
def p_law_kinds_c_6 (x : Nat → Nat) : List Cm := .ite (.isi (.var 0) (.cls 17)) [.app true 1 [] (.cst (.str "Twice"))] [] ::
  p_law_kinds_c_7 x
def p_law_kinds_c_5 (x : Nat → Nat) : List Cm := .ite (.isi (.var 0) (.cls 15)) [.app true 1 [] (.cst (.str "NoWay"))] [] ::
  p_law_kinds_c_6 x
def p_law_kinds_c_4 (x : Nat → Nat) : List Cm := .ite (.or [.isi (.var 0) (.cls 13), .isi (.var 0) (.cls 14), .isi (.var 0) (.cls 16)]) [.app true 1 [] (.cst (.str "a text, a row, a walk"))] [] ::
  p_law_kinds_c_5 x
def p_law_kinds_c_3 (x : Nat → Nat) : List Cm := .ite (.or [.isi (.var 0) (.cls 10), .isi (.var 0) (.cls 11), .isi (.var 0) (.cls 12)]) [.app true 1 [] (.cst (.str "a ring, a strand, an exchange"))] [] ::
  p_law_kinds_c_4 x
def p_law_kinds_c_2 (x : Nat → Nat) : List Cm := .ite (.isi (.var 0) (.cls 9)) [.app true 1 [] (.cst (.str "TooMany"))] [] ::
  p_law_kinds_c_3 x
def p_law_kinds_c_1 (x : Nat → Nat) : List Cm := .ite (.isi (.var 0) (.cls 8)) [.app true 1 [] (.cst (.str "NoNumber"))] [] ::
  p_law_kinds_c_2 x
def p_law_kinds_c (x : Nat → Nat) : List Cm := .set 1 (.lst []) ::
  p_law_kinds_c_1 x
def p_law_kinds (x : Nat → Nat) : Df := ⟨1, 2, (p_law_kinds_c x), []⟩
def p_Fraction_same (x : Nat → Nat) : Df := ⟨2, 2, [.ret (.and [.cmp .eq (.fld (.var 0) 0) (.fld (.var 1) 0), .cmp .eq (.fld (.var 0) 1) (.fld (.var 1) 1)])], []⟩
def p_Fraction_shown (x : Nat → Nat) : Df := ⟨1, 1, [.ite (.cmp .eq (.fld (.var 0) 1) (.cst (.int 1))) [.ret (.blt .str [.fld (.var 0) 0])] [],
  .ret (.op .add (.op .add (.blt .str [.fld (.var 0) 0]) (.cst (.str "/"))) (.blt .str [.fld (.var 0) 1]))], []⟩
def p_law_mix_2 (x : Nat → Nat) : Df := ⟨2, 2, [.ret (.op .mod (.op .mul (.op .mod (.op .mul (.op .add (.op .add (.cal (x 1) [.var 0, .var 1]) (.op .mul (.op .mul (.cst (.int 7)) (.var 1)) (.var 1))) (.cst (.int 11))) (.cst (.int 48271))) (.cst (.int 2147483647))) (.cst (.int 69621))) (.cst (.int 1000000007)))], []⟩
def p_law_maybe (x : Nat → Nat) : Df := ⟨1, 1, [.ite (.cmp .isN (.var 0) (.cst .non)) [.ret (.cst .non)] [],
  .ret (.mak 0 [.ix (.var 0) (.cst (.int 0)), .ix (.var 0) (.cst (.int 1))])], []⟩
def p_law_sums_c_b2 (x : Nat → Nat) : List Cm := .put true 2 [] (.var 4) (.cal (x 38) [.ix (.var 2) (.var 4), .tup [.op .sub (.cst (.int 0)) (.ix (.var 7) (.cst (.int 0))), .ix (.var 7) (.cst (.int 1))]]) ::
  .put true 2 [] (.var 5) (.cal (x 38) [.ix (.var 2) (.var 5), .cal (x 39) [.var 7, .var 6]]) ::
  []
def p_law_sums_c_b1_1 (x : Nat → Nat) : List Cm := .kil 3 ::
  .kil 4 ::
  .kil 5 ::
  .kil 6 ::
  .kil 7 ::
  .kil 8 ::
  .kil 9 ::
  []
def p_law_sums_c_b1 (x : Nat → Nat) : List Cm := .ite (.cmp .notN (.var 7) (.cst .non)) (p_law_sums_c_b2 x) [] ::
  p_law_sums_c_b1_1 x
def p_law_sums_c_2 (x : Nat → Nat) : List Cm := .frz 2 ::
  .kil 3 ::
  .kil 4 ::
  .kil 5 ::
  .kil 6 ::
  .kil 7 ::
  .kil 8 ::
  .kil 9 ::
  .retv 2 ::
  []
def p_law_sums_c_1 (x : Nat → Nat) : List Cm := .for_ (.tp [.nm 3, .nm 4, .nm 5, .nm 6, .nm 7, .nm 8, .nm 9]) (.seq (.var 0)) (p_law_sums_c_b1 x) ::
  p_law_sums_c_2 x
def p_law_sums_c (x : Nat → Nat) : List Cm := .set 2 (.cmpr (.tup [.cst (.int 0), .cst (.int 1)]) (.nm 10) (.rng1 (.var 1)) []) ::
  p_law_sums_c_1 x
def p_law_sums (x : Nat → Nat) : Df := ⟨2, 11, (p_law_sums_c x), []⟩
def p_law_entries_c_b1 (x : Nat → Nat) : List Cm := .set 7 (.op .mod (.op .fdiv (.var 3) (.cst (.int 7))) (.op .add (.blt .len [.var 4]) (.cst (.int 1)))) ::
  .frz 7 ::
  .set 4 (.op .cat (.op .cat (.slc (.var 4) none (some (.var 7))) (.lst [.tup [.var 6, .tup [.op .sub (.op .mod (.var 3) (.cst (.int 5))) (.cst (.int 1)), .cst (.int 1)]]])) (.slc (.var 4) (some (.var 7)) none)) ::
  .frz 4 ::
  .set 3 (.op .fdiv (.var 3) (.cst (.int 3))) ::
  .kil 6 ::
  .kil 7 ::
  []
def p_law_entries_c_2 (x : Nat → Nat) : List Cm := .kil 6 ::
  .kil 7 ::
  .retv 4 ::
  []
def p_law_entries_c_1 (x : Nat → Nat) : List Cm := .for_ (.nm 6) (.seq (.var 2)) (p_law_entries_c_b1 x) ::
  p_law_entries_c_2 x
def p_law_entries_c (x : Nat → Nat) : List Cm := .set 4 (.cmpr (.tup [.ix (.var 1) (.var 8), .ix (.ix (.var 0) (.var 8)) (.cst (.int 4))]) (.nm 8) (.rng1 (.blt .len [.var 0])) [.cmp .notN (.ix (.ix (.var 0) (.var 8)) (.cst (.int 4))) (.cst .non)]) ::
  .frz 4 ::
  .set 5 (.op .mod (.var 3) (.blt .max2 [.cst (.int 1), .blt .len [.var 4]])) ::
  .frz 5 ::
  .set 4 (.op .cat (.slc (.var 4) (some (.var 5)) none) (.slc (.var 4) none (some (.var 5)))) ::
  .frz 4 ::
  p_law_entries_c_1 x
def p_law_entries (x : Nat → Nat) : Df := ⟨4, 9, (p_law_entries_c x), []⟩
def p_law_plan_c_b1 (x : Nat → Nat) : List Cm := .put true 1 [] (.var 2) (.mak 0 [.ix (.var 3) (.cst (.int 0)), .ix (.var 3) (.cst (.int 1))]) ::
  .kil 2 ::
  .kil 3 ::
  []
def p_law_plan_c_2 (x : Nat → Nat) : List Cm := .frz 1 ::
  .kil 2 ::
  .kil 3 ::
  .retv 1 ::
  []
def p_law_plan_c_1 (x : Nat → Nat) : List Cm := .for_ (.tp [.nm 2, .nm 3]) (.seq (.var 0)) (p_law_plan_c_b1 x) ::
  p_law_plan_c_2 x
def p_law_plan_c (x : Nat → Nat) : List Cm := .set 1 (.dct [] []) ::
  p_law_plan_c_1 x
def p_law_plan (x : Nat → Nat) : Df := ⟨1, 4, (p_law_plan_c x), []⟩
def p_law_stays_c_b1_1 (x : Nat → Nat) : List Cm := .kil 2 ::
  .kil 3 ::
  []
def p_law_stays_c_b1 (x : Nat → Nat) : List Cm := .ite (.not (.cal (x 5) [.ix (.var 0) (.var 2), .ix (.var 3) (.cst (.int 0)), .ix (.var 3) (.cst (.int 1))])) [.ret (.cst (.bl false))] [] ::
  p_law_stays_c_b1_1 x
def p_law_stays_c_2 (x : Nat → Nat) : List Cm := .kil 2 ::
  .kil 3 ::
  .ret (.cst (.bl true)) ::
  []
def p_law_stays_c_1 (x : Nat → Nat) : List Cm := .for_ (.tp [.nm 2, .nm 3]) (.seq (.var 1)) (p_law_stays_c_b1 x) ::
  p_law_stays_c_2 x
def p_law_stays_c (x : Nat → Nat) : List Cm := .ite (.cmp .ne (.blt .list [.var 0]) (.cmpr (.ix (.var 4) (.cst (.int 0))) (.nm 4) (.seq (.var 1)) [])) [.ret (.cst (.bl false))] [] ::
  p_law_stays_c_1 x
def p_law_stays (x : Nat → Nat) : Df := ⟨2, 5, (p_law_stays_c x), []⟩
def p_law_many (x : Nat → Nat) : Df := ⟨2, 2, [.ite (.cmp .lt (.var 1) (.cst (.int 2))) [.ret (.cst (.int 0))] [],
  .ite (.cmp .eq (.op .mod (.var 0) (.cst (.int 6))) (.cst (.int 5))) [.ret (.op .mod (.op .fdiv (.var 0) (.cst (.int 6))) (.cst (.int 25)))] [],
  .ret (.op .mod (.op .fdiv (.var 0) (.cst (.int 6))) (.cst (.int 9)))], []⟩
def p_is_over (x : Nat → Nat) : Df := ⟨2, 2, [.ite (.cmp .lt (.met (.var 1) 8 []) (.cst (.int 0))) [.ret (.cst (.bl true))] [],
  .ret (.and [.cmp .notN (.fld (.var 0) 13) (.cst .non), .met (.fld (.var 0) 13) 6 [.var 1]])], []⟩
def p_faults_c_b1_1 (x : Nat → Nat) : List Cm := .kil 3 ::
  []
def p_faults_c_b1 (x : Nat → Nat) : List Cm := .ite (.cal (x 87) [.var 3, .cal (x 30) [.var 1, .fld (.var 3) 10]]) [.app true 2 [] (.tup [.cst (.str "bound"), .fld (.var 3) 10])] [] ::
  p_faults_c_b1_1 x
def p_faults_c_b2_1 (x : Nat → Nat) : List Cm := .kil 5 ::
  []
def p_faults_c_b2 (x : Nat → Nat) : List Cm := .ite (.met (.ix (.var 4) (.var 5)) 6 [.met (.var 0) 24 [.var 5]]) [.app true 2 [] (.tup [.cst (.str "place"), .var 5])] [] ::
  p_faults_c_b2_1 x
def p_faults_c_4 (x : Nat → Nat) : List Cm := .frz 2 ::
  .kil 5 ::
  .retv 2 ::
  []
def p_faults_c_3 (x : Nat → Nat) : List Cm := .for_ (.nm 5) (.seq (.met (.var 0) 23 [])) (p_faults_c_b2 x) ::
  p_faults_c_4 x
def p_faults_c_2 (x : Nat → Nat) : List Cm := .kil 3 ::
  .set 4 (.cal (x 32) [.var 0, .var 1]) ::
  .frz 4 ::
  p_faults_c_3 x
def p_faults_c_1 (x : Nat → Nat) : List Cm := .for_ (.nm 3) (.seq (.met (.var 0) 26 [])) (p_faults_c_b1 x) ::
  p_faults_c_2 x
def p_faults_c (x : Nat → Nat) : List Cm := .set 2 (.cmpr (.tup [.cst (.str "way"), .var 6]) (.nm 6) (.seq (.cal (x 70) [.var 0, .var 1])) []) ::
  p_faults_c_1 x
def p_faults (x : Nat → Nat) : Df := ⟨2, 7, (p_faults_c x), []⟩
def p_checked_c_b2_1 (x : Nat → Nat) : List Cm := .rai 19 [.var 3, .fld (.met (.var 0) 25 [.var 3]) 13] ::
  []
def p_checked_c_b2 (x : Nat → Nat) : List Cm := .ite (.cmp .lt (.met (.cal (x 30) [.var 1, .var 3]) 8 []) (.cst (.int 0))) [.rai 19 [.var 3, .mak 0 [.cst (.int 0)]]] [] ::
  p_checked_c_b2_1 x
def p_checked_c_b1_2 (x : Nat → Nat) : List Cm := .rai 20 [.var 3, .met (.met (.var 0) 24 [.var 3]) 3 [.ix (.cal (x 72) [.var 0, .var 1]) (.var 3)]] ::
  .kil 2 ::
  .kil 3 ::
  []
def p_checked_c_b1_1 (x : Nat → Nat) : List Cm := .ite (.cmp .eq (.var 2) (.cst (.str "bound"))) (p_checked_c_b2 x) [] ::
  p_checked_c_b1_2 x
def p_checked_c_b1 (x : Nat → Nat) : List Cm := .ite (.cmp .eq (.var 2) (.cst (.str "way"))) [.rai 15 [.var 3]] [] ::
  p_checked_c_b1_1 x
def p_checked_c_1 (x : Nat → Nat) : List Cm := .kil 2 ::
  .kil 3 ::
  .ret (.cal (x 73) [.var 0, .var 1]) ::
  []
def p_checked_c (x : Nat → Nat) : List Cm := .for_ (.tp [.nm 2, .nm 3]) (.seq (.cal (x 88) [.var 0, .var 1])) (p_checked_c_b1 x) ::
  p_checked_c_1 x
def p_checked (x : Nat → Nat) : Df := ⟨2, 4, (p_checked_c x), []⟩
def p_Net_wanting_c_b1_1 (x : Nat → Nat) : List Cm := .kil 2 ::
  []
def p_Net_wanting_c_b1 (x : Nat → Nat) : List Cm := .ite (.cmp .notin (.var 2) (.fld (.var 0) 21)) [.rai 18 [.var 2]] [] ::
  p_Net_wanting_c_b1_1 x
def p_Net_wanting_c_1 (x : Nat → Nat) : List Cm := .kil 2 ::
  .set 3 (.cmpr (.tup [.var 4, .bmt .get2 (.var 1) [.var 4, .ix (.fld (.var 0) 21) (.var 4)]]) (.nm 4) (.keys (.fld (.var 0) 21)) []) ::
  .frz 3 ::
  .ret (.mak 5 [.var 3, .met (.var 0) 26 []]) ::
  []
def p_Net_wanting_c (x : Nat → Nat) : List Cm := .for_ (.nm 2) (.keys (.var 1)) (p_Net_wanting_c_b1 x) ::
  p_Net_wanting_c_1 x
def p_Net_wanting (x : Nat → Nat) : Df := ⟨2, 5, (p_Net_wanting_c x), []⟩
end GS

namespace GS
open PySem PySem.Spec PyProof.Rows L2

/-! # fractions -/
/-- a fraction: class 0, fields top (0), bottom (1) -/
def frZ (q : Rat) : D := .ins .fz 0 [0, 1] [.int q.num, .int q.den]
/-- figures (binary) of the greater part -/
def bs (q : Rat) : Nat := max (Nat.log2 q.num.natAbs + 1) (Nat.log2 q.den + 1)
theorem lt_log2 (n : Nat) : n < 2 ^ (n.log2 + 1) := Nat.lt_log2_self
theorem bs_num (q : Rat) : q.num.natAbs < 2 ^ bs q := Nat.lt_of_lt_of_le (lt_log2 _) (Nat.pow_le_pow_right (by omega) (Nat.le_max_left _ _))
theorem bs_den (q : Rat) : q.den < 2 ^ bs q := Nat.lt_of_lt_of_le (lt_log2 _) (Nat.pow_le_pow_right (by omega) (Nat.le_max_right _ _))
theorem log2_of {n k : Nat} (h : n < 2 ^ k) (h0 : 0 < k) : n.log2 + 1 ≤ k := by
  by_cases z : n = 0
  · subst z; show 0 + 1 ≤ k; omega
  · have := (Nat.log2_lt z).mpr h; omega
theorem bs_le {q : Rat} {k : Nat} (h1 : q.num.natAbs < 2 ^ k) (h2 : q.den < 2 ^ k) (h0 : 0 < k) : bs q ≤ k := Nat.max_le.mpr ⟨log2_of h1 h0, log2_of h2 h0⟩
theorem bs_pos (q : Rat) : 0 < bs q := Nat.lt_of_lt_of_le (Nat.succ_pos _) (Nat.le_max_left _ _)
theorem pow_mul_lt {a b n m : Nat} (h1 : a < 2 ^ n) (h2 : b < 2 ^ m) : a * b < 2 ^ (n + m) := by
  rw [Nat.pow_add]
  exact Nat.mul_lt_mul_of_lt_of_le h1 (Nat.le_of_lt h2) (Nat.two_pow_pos m)
theorem bs_div {a b : Int} {k : Nat} (hb : b ≠ 0) (h1 : a.natAbs < 2 ^ k) (h2 : b.natAbs < 2 ^ k) (h0 : 0 < k) : bs (Rat.divInt a b) ≤ k := by
  have he : (Rat.divInt a b).num.natAbs ≤ a.natAbs ∧ (Rat.divInt a b).den ≤ b.natAbs := by
    rw [Rat.num_divInt, Rat.den_divInt, if_neg hb]
    refine ⟨?_, Nat.div_le_self _ _⟩
    rw [Int.natAbs_ediv_of_dvd ?_]
    · refine Nat.le_trans (Nat.div_le_self _ _) ?_
      rw [Int.natAbs_mul]
      have : b.sign.natAbs = 1 := by rw [Int.natAbs_sign]; simp [hb]
      rw [this, Nat.one_mul]
      exact Nat.le_refl _
    · exact Int.dvd_mul_of_dvd_right (Int.gcd_dvd_right ..)
  exact bs_le (Nat.lt_of_le_of_lt he.1 h1) (Nat.lt_of_le_of_lt he.2 h2) h0
theorem add_div (p q : Rat) : p + q = Rat.divInt (p.num * q.den + q.num * p.den) (p.den * q.den) := by
  conv => lhs; rw [← Rat.num_divInt_den p, ← Rat.num_divInt_den q]
  rw [Rat.divInt_add_divInt _ _ (by have := p.den_pos; omega) (by have := q.den_pos; omega)]
theorem sub_div' (p q : Rat) : p - q = Rat.divInt (p.num * q.den - q.num * p.den) (p.den * q.den) := by
  conv => lhs; rw [← Rat.num_divInt_den p, ← Rat.num_divInt_den q]
  rw [Rat.divInt_sub_divInt _ _ (by have := p.den_pos; omega) (by have := q.den_pos; omega)]
theorem mul_div' (p q : Rat) : p * q = Rat.divInt (p.num * q.num) (p.den * q.den) := by
  conv => lhs; rw [← Rat.num_divInt_den p, ← Rat.num_divInt_den q]
  rw [Rat.divInt_mul_divInt]
theorem quo_div (p q : Rat) : p / q = Rat.divInt (p.num * q.den) (p.den * q.num) := by
  conv => lhs; rw [← Rat.num_divInt_den p, ← Rat.num_divInt_den q]
  rw [Rat.div_def, Rat.inv_divInt, Rat.divInt_mul_divInt]
theorem dd_ne (p q : Rat) : ((p.den : Int) * q.den) ≠ 0 := by
  have h1 := p.den_pos
  have h2 := q.den_pos
  exact Int.mul_ne_zero (by omega) (by omega)
theorem nat_mul_lt {a b : Int} {n m : Nat} (h1 : a.natAbs < 2 ^ n) (h2 : b.natAbs < 2 ^ m) : (a * b).natAbs < 2 ^ (n + m) := by rw [Int.natAbs_mul]; exact pow_mul_lt h1 h2
theorem bs_den' (q : Rat) : (q.den : Int).natAbs < 2 ^ bs q := bs_den q
theorem pm_lt {a b c d : Int} {n m : Nat} (h1 : a.natAbs < 2 ^ n) (h2 : b.natAbs < 2 ^ m) (h3 : c.natAbs < 2 ^ m) (h4 : d.natAbs < 2 ^ n) : (a * b + c * d).natAbs < 2 ^ (n + m + 1) ∧ (a * b - c * d).natAbs < 2 ^ (n + m + 1) := by
  have e1 := nat_mul_lt h1 h2
  have e2 := nat_mul_lt h3 h4
  rw [Nat.add_comm m n] at e2
  have e3 : 2 ^ (n + m + 1) = 2 ^ (n + m) + 2 ^ (n + m) := by rw [Nat.pow_succ]; omega
  constructor <;> omega
theorem bs_add (p q : Rat) : bs (p + q) ≤ bs p + bs q + 1 := by
  rw [add_div]
  refine bs_div (dd_ne p q) (pm_lt (bs_num p) (bs_den' q) (bs_num q) (bs_den' p)).1 ?_ (by omega)
  have := nat_mul_lt (bs_den' p) (bs_den' q)
  exact Nat.lt_of_lt_of_le this (Nat.pow_le_pow_right (by omega) (by omega))
theorem bs_sub (p q : Rat) : bs (p - q) ≤ bs p + bs q + 1 := by
  rw [sub_div']
  refine bs_div (dd_ne p q) (pm_lt (bs_num p) (bs_den' q) (bs_num q) (bs_den' p)).2 ?_ (by omega)
  have := nat_mul_lt (bs_den' p) (bs_den' q)
  exact Nat.lt_of_lt_of_le this (Nat.pow_le_pow_right (by omega) (by omega))
theorem bs_mul (p q : Rat) : bs (p * q) ≤ bs p + bs q := by
  rw [mul_div']
  exact bs_div (dd_ne p q) (nat_mul_lt (bs_num p) (bs_num q)) (nat_mul_lt (bs_den' p) (bs_den' q)) (by have := bs_pos p; omega)
theorem bs_quo (p q : Rat) : bs (p / q) ≤ bs p + bs q := by
  by_cases hq : q = 0
  · subst hq
    rw [Rat.div_def, Rat.inv_zero, Rat.mul_zero]
    have : bs 0 = 1 := by decide +kernel
    have := bs_pos p
    omega
  · rw [quo_div]
    have h1 := p.den_pos
    have : q.num ≠ 0 := fun e => hq (Rat.num_eq_zero.mp e)
    exact bs_div (Int.mul_ne_zero (by omega) this) (nat_mul_lt (bs_num p) (bs_den' q)) (nat_mul_lt (bs_den' p) (bs_num q)) (by have := bs_pos p; omega)
theorem bs_of {a b : Int} {k : Nat} (hb : b ≠ 0) (h1 : a.natAbs < 2 ^ k) (h2 : b.natAbs < 2 ^ k) : bs (Rat.divInt a b) ≤ k := by
  refine bs_div hb h1 h2 ?_
  cases k with
  | zero => exact absurd (show b = 0 by simp at h2; omega) hb
  | succ k => omega
theorem mulOk_bs {a b : Int} {n m : Nat} (h1 : a.natAbs < 2 ^ n) (h2 : b.natAbs < 2 ^ m) (h : n + m ≤ 100000) : mulOk a b = true := mulOk_b h1 h2 h
/-! ## the table's facts -/
class Fr (T : TB) (x : Nat → Nat) : Prop where
  dv : T.defs (x 0) = some (p_divisor x)
  fi : T.defs (x 6) = some (p_Fraction__init x)
  ini : T.init 0 = some (x 6)
  ok1 : T.fok 0 0 = true
  ok2 : T.fok 0 1 = true
  sub : T.sub 0 = [0]
class Mth (T : TB) (x : Nat → Nat) (c m g : Nat) : Prop where
  eq : T.meth c m = some (x g)
@[simp] theorem fr_top {ok : Nat → Nat → Bool} {q : Rat} (h : ok 0 0 = true) : vFld ok 0 (frZ q) = .ok (.int q.num) := by
  show Res.guard _ _ = _
  rw [h]; rfl
@[simp] theorem fr_bot {ok : Nat → Nat → Bool} {q : Rat} (h : ok 0 1 = true) : vFld ok 1 (frZ q) = .ok (.int q.den) := by
  show Res.guard _ _ = _
  rw [h]; rfl
section
variable {T : TB} {x : Nat → Nat} {k : Nat}
theorem gcd_loopZ {G : GE} {t : Tm} (x0 : Nat → Nat) (ht : ∀ (x y : Nat), (evZ G t [some (.int x), some (.int y), none]).bind vTru = .ok (decide (y ≠ 0))) : ∀ (n x y : Nat), y ≤ n → whileV (fun s => toStep s ((evZ G t s).bind vTru) (fun s => exZs G whileV (p_divisor_c_b1 x0) s)) [some (.int x), some (.int y), none] = .nx [some (.int (Nat.gcd x y)), some (.int 0), none] := by
  intro n
  induction n with
  | zero =>
    intro x y h
    have : y = 0 := by omega
    subst this
    rw [whileV_stop (o := .nx [some (.int x), some (.int (0 : Nat)), none])]
    · simp
    · rw [ht]; simp [toStep]
  | succ n ih =>
    intro x y h
    by_cases h0 : y = 0
    · subst h0
      rw [whileV_stop (o := .nx [some (.int x), some (.int (0 : Nat)), none])]
      · simp
      · rw [ht]; simp [toStep]
    · rw [whileV_step (s' := [some (.int y), some (.int ((x % y : Nat) : Int)), none])]
      · rw [ih y (x % y) (by have := Nat.mod_lt x (Nat.pos_of_ne_zero h0); omega), Nat.gcd_comm x y, Nat.gcd_rec y x, Nat.gcd_comm (x % y) y]
      · rw [ht]
        have hy : (0 : Int) < (y : Int) := by omega
        simp [toStep, h0, bz_mod hy, p_divisor_c_b1]
@[simp] theorem div_runZ [F : Fr T x] (a b : Int) : cl T (k + 1) (x 0) [.int a, .int b] = .ok (.int (Int.gcd a b)) := by
  rw [cl_eq F.dv rfl rfl]
  have h := gcd_loopZ (G := ZG T k) (t := .cmp .ne (.var 1) (.cst (.int 0))) x (fun x y => by simp) b.natAbs a.natAbs b.natAbs (Nat.le_refl _)
  simp [p_divisor, p_divisor_c, p_divisor_c_1]
  rw [zx_whl, h]
  simp [p_divisor_c_2]
  rfl
@[simp] theorem lawdiv_run [F : Lib T x 4 p_law_divisor] (a b : Int) : cl T (k + 1) (x 4) [.int a, .int b] = .ok (.int (Int.gcd a b)) := by
  rw [cl_eq F.eq rfl rfl]
  have h := gcd_loopZ (G := ZG T k) (t := .cmp .gt (.var 1) (.cst (.int 0))) x (fun x y => by simp [Nat.pos_iff_ne_zero]) b.natAbs a.natAbs b.natAbs (Nat.le_refl _)
  simp [p_law_divisor, p_law_divisor_c, p_law_divisor_c_1]
  rw [zx_whl]
  have e : p_law_divisor_c_b1 x = p_divisor_c_b1 x := rfl
  rw [e, h]
  simp [p_law_divisor_c_2]
  rfl
@[simp] theorem whole_runZ [F : Lib T x 2 p_law_whole] (c : Int) : cl T (k + 1) (x 2) [.int c] = .ok (.bl true) := by
  rw [cl_eq F.eq rfl rfl]
  simp [p_law_whole, vIsi, D.ty, isiN]
theorem cell_runZ [F : Lib T x 1 p_law_cell_at] (ns : List Int) (j : Nat) : cl T (k + 1) (x 1) [scrZ ns, .int j] = .ok (.int (ns.getD j 0)) := by
  rw [cl_eq F.eq rfl rfl]
  by_cases h : j < ns.length
  · simp [p_law_cell_at, scrZ, h, at_nat]
  · simp [p_law_cell_at, scrZ, h]
@[simp] theorem cell_int [F : Lib T x 1 p_law_cell_at] {ns : List Int} {i : Int} (h : 0 ≤ i) : cl T (k + 1) (x 1) [.lst .fz (ns.map .int), .int i] = .ok (.int (ns.getD i.toNat 0)) := by
  have := cell_runZ (T := T) (x := x) (k := k) ns i.toNat
  rw [Int.toNat_of_nonneg h] at this
  exact this
/-! ### Fraction(..) -/
theorem fr_init [F : Fr T x] (t b : Int) (hb : b ≠ 0) (hs : b.natAbs < 2 ^ 8000) :
    ((exZs (ZG T (k + 1)) whileV (p_Fraction__init x).code [some (.ins .fz 0 [] []), some (.int t), some (.int b), none]).toRZ).madeZ = .ok (frZ (Rat.divInt t b)) := by
  obtain ⟨e1, e2⟩ := num_of t b hb
  have hg1 : Int.gcd t b ≤ b.natAbs := Nat.gcd_le_right t.natAbs (show 0 < b.natAbs by omega)
  have hg0 : Int.gcd t b ≠ 0 := by rw [Ne, Int.gcd_eq_zero_iff]; omega
  have hdv : ∀ j : Int, j.natAbs = Int.gcd t b → divOk j = true := fun j hj => by
    unfold divOk
    have := log2_lt (i := j) (k := 8000) (by omega) (by omega)
    simp only [Bool.and_eq_true, decide_eq_true_eq]
    exact ⟨by omega, by omega⟩
  have d1 := fun i : Int => bz_fdiv (i := i) (hdv (Int.gcd t b : Int) (Int.natAbs_natCast _))
  have d2 := fun i : Int => bz_fdiv (i := i) (hdv (0 - (Int.gcd t b : Int)) (by omega))
  by_cases h : b < 0
  · rw [if_pos h] at e1 e2
    simp [p_Fraction__init, hb, h, d2, fputZ, F.ok1, F.ok2, -Int.zero_sub, -bz_fdivS]
    show Res.ok _ = _
    unfold frZ
    rw [e1, e2]
  · rw [if_neg h] at e1 e2
    simp [p_Fraction__init, hb, h, d1, fputZ, F.ok1, F.ok2, -Int.zero_sub, -bz_fdivS]
    show Res.ok _ = _
    unfold frZ
    rw [e1, e2]
theorem fr_mk [F : Fr T x] {t b : Int} (hb : b ≠ 0) (hs : b.natAbs < 2 ^ 8000) : mkZ T (k + 3) 0 [.int t, .int b] = .ok (frZ (Rat.divInt t b)) := by
  rw [mk_eq (df := p_Fraction__init x) (as := [.int t, .int b]) F.ini F.fi rfl (Nat.le_refl 3)]
  exact fr_init t b hb hs
theorem fr_mk1 [F : Fr T x] {t : Int} : mkZ T (k + 3) 0 [.int t] = .ok (frZ (Rat.divInt t 1)) := by
  rw [mk_eq (df := p_Fraction__init x) (as := [.int t]) F.ini F.fi rfl (show 2 ≤ 3 by omega)]
  exact fr_init t 1 (by decide) (Nat.one_lt_two_pow (by omega))
/-! ### the methods -/
theorem mt_fr {m g : Nat} [M : Mth T x 0 m g] (h0 : m ≠ 0) (h1 : m ≠ 1) (q : Rat) (ds : List D) : mt T k (frZ q) m (.ok ds) = cl T k (x g) (frZ q :: ds) := by
  show (match T.meth 0 m with
    | some f => Res.guard (!([0, 1].any fun g => decide (g = m))) <| (Res.ok ds).bind fun ds => cl T k f (frZ q :: ds)
    | none => .stuck) = _
  rw [M.eq]
  have : ([0, 1].any fun g => decide (g = m)) = false := by simp [Ne.symm h0, Ne.symm h1]
  rw [this]; rfl
theorem den_lt {p q : Rat} (h : bs p + bs q ≤ 7000) : ((p.den : Int) * q.den).natAbs < 2 ^ 8000 := Nat.lt_of_lt_of_le (nat_mul_lt (bs_den' p) (bs_den' q)) (Nat.pow_le_pow_right (by omega) (by omega))
theorem plusZ [F : Fr T x] [P : Lib T x 7 p_Fraction_plus] [M : Mth T x 0 2 7] {p q : Rat} (h : bs p + bs q ≤ 7000) : mt T (k + 4) (frZ p) 2 (.ok [frZ q]) = .ok (frZ (p + q)) := by
  rw [mt_fr (x := x) (g := 7) (by decide) (by decide), cl_eq P.eq rfl rfl]
  have m1 : mulOk p.num q.den = true := mulOk_bs (bs_num p) (bs_den' q) (by omega)
  have m2 : mulOk q.num p.den = true := mulOk_bs (bs_num q) (bs_den' p) (by omega)
  have m3 : mulOk p.den q.den = true := mulOk_bs (bs_den' p) (bs_den' q) (by omega)
  simp [p_Fraction_plus, F.ok1, F.ok2, m1, m2, m3, fr_mk (T := T) (x := x) (k := k) (dd_ne p q) (den_lt h)]
  rw [add_div]
theorem minusZ [F : Fr T x] [P : Lib T x 9 p_Fraction_minus] [M : Mth T x 0 3 9] {p q : Rat} (h : bs p + bs q ≤ 7000) : mt T (k + 4) (frZ p) 3 (.ok [frZ q]) = .ok (frZ (p - q)) := by
  rw [mt_fr (x := x) (g := 9) (by decide) (by decide), cl_eq P.eq rfl rfl]
  have m1 : mulOk p.num q.den = true := mulOk_bs (bs_num p) (bs_den' q) (by omega)
  have m2 : mulOk q.num p.den = true := mulOk_bs (bs_num q) (bs_den' p) (by omega)
  have m3 : mulOk p.den q.den = true := mulOk_bs (bs_den' p) (bs_den' q) (by omega)
  simp [p_Fraction_minus, F.ok1, F.ok2, m1, m2, m3, fr_mk (T := T) (x := x) (k := k) (dd_ne p q) (den_lt h)]
  rw [sub_div']
theorem timesZ [F : Fr T x] [P : Lib T x 10 p_Fraction_times] [M : Mth T x 0 4 10] {p q : Rat} (h : bs p + bs q ≤ 7000) : mt T (k + 4) (frZ p) 4 (.ok [frZ q]) = .ok (frZ (p * q)) := by
  rw [mt_fr (x := x) (g := 10) (by decide) (by decide), cl_eq P.eq rfl rfl]
  have m1 : mulOk p.num q.num = true := mulOk_bs (bs_num p) (bs_num q) (by omega)
  have m3 : mulOk p.den q.den = true := mulOk_bs (bs_den' p) (bs_den' q) (by omega)
  simp [p_Fraction_times, F.ok1, F.ok2, m1, m3, fr_mk (T := T) (x := x) (k := k) (dd_ne p q) (den_lt h)]
  rw [mul_div']
theorem overZ [F : Fr T x] [P : Lib T x 8 p_Fraction_over] [M : Mth T x 0 5 8] {p q : Rat} (h : bs p + bs q ≤ 7000) (hq : q ≠ 0) : mt T (k + 4) (frZ p) 5 (.ok [frZ q]) = .ok (frZ (p / q)) := by
  rw [mt_fr (x := x) (g := 8) (by decide) (by decide), cl_eq P.eq rfl rfl]
  have m1 : mulOk p.num q.den = true := mulOk_bs (bs_num p) (bs_den' q) (by omega)
  have m3 : mulOk p.den q.num = true := mulOk_bs (bs_den' p) (bs_num q) (by omega)
  have hn : q.num ≠ 0 := fun e => hq (Rat.num_eq_zero.mp e)
  have h0 : (p.den : Int) * q.num ≠ 0 := Int.mul_ne_zero (by have := p.den_pos; omega) hn
  have h8 : ((p.den : Int) * q.num).natAbs < 2 ^ 8000 := Nat.lt_of_lt_of_le (nat_mul_lt (bs_den' p) (bs_num q)) (Nat.pow_le_pow_right (by omega) (by omega))
  simp [p_Fraction_over, F.ok1, F.ok2, m1, m3, fr_mk (T := T) (x := x) (k := k) h0 h8]
  rw [quo_div]
theorem lt_num (p q : Rat) : p.num * q.den < q.num * p.den ↔ p < q := by
  rw [Rat.lt_iff]
theorem underZ [F : Fr T x] [P : Lib T x 13 p_Fraction_under] [M : Mth T x 0 6 13] {p q : Rat} (h : bs p + bs q ≤ 7000) : mt T (k + 1) (frZ p) 6 (.ok [frZ q]) = .ok (.bl (decide (p < q))) := by
  rw [mt_fr (x := x) (g := 13) (by decide) (by decide), cl_eq P.eq rfl rfl]
  have m1 : mulOk p.num q.den = true := mulOk_bs (bs_num p) (bs_den' q) (by omega)
  have m2 : mulOk q.num p.den = true := mulOk_bs (bs_num q) (bs_den' p) (by omega)
  simp [p_Fraction_under, F.ok1, F.ok2, m1, m2, lt_num]
/-- the sign of a fraction -/
def sgn (q : Rat) : Int := if 0 < q then 1 else if q < 0 then -1 else 0
theorem signZ [F : Fr T x] [P : Lib T x 14 p_Fraction_sign] [M : Mth T x 0 8 14] {p : Rat} : mt T (k + 1) (frZ p) 8 (.ok []) = .ok (.int (sgn p)) := by
  rw [mt_fr (x := x) (g := 14) (by decide) (by decide), cl_eq P.eq rfl rfl]
  unfold sgn
  have h1 : 0 < p ↔ 0 < p.num := by rw [Rat.lt_iff]; simp
  have h2 : p < 0 ↔ p.num < 0 := by rw [Rat.lt_iff]; simp
  by_cases c1 : 0 < p.num
  · simp [p_Fraction_sign, F.ok1, F.ok2, h1, c1]
  · by_cases c2 : p.num < 0
    · simp [p_Fraction_sign, F.ok1, F.ok2, h1, h2, c1, c2, vNeg]
    · simp [p_Fraction_sign, F.ok1, F.ok2, h1, h2, c1, c2]
/-! ### total -/
theorem sum_bs {m : Nat} : ∀ (qs : List Rat) (p : Rat), (∀ q ∈ qs, bs q ≤ m) → bs (qs.foldl (· + ·) p) ≤ bs p + qs.length * (m + 1)
  | [], p, _ => by simp
  | q :: qs, p, h => by
    have ih := sum_bs qs (p + q) fun x hx => h x (by simp [hx])
    have h1 := bs_add p q
    have h2 := h q (by simp)
    rw [List.length_cons, Nat.add_mul]
    show bs (qs.foldl (· + ·) (p + q)) ≤ _
    omega
theorem zero_div1 : Rat.divInt 0 1 = 0 := by decide +kernel
theorem totalZ [F : Fr T x] [P : Lib T x 7 p_Fraction_plus] [M : Mth T x 0 2 7] [Q : Lib T x 3 p_total] {m : Nat} (qs : List Rat) (h : ∀ q ∈ qs, bs q ≤ m) (hl : 1 + qs.length * (m + 1) + m ≤ 7000) : cl T (k + 5) (x 3) [L (qs.map frZ)] = .ok (frZ (qs.foldl (· + ·) 0)) := by
  rw [cl_eq Q.eq rfl rfl]
  have b0 : bs 0 = 1 := by decide +kernel
  simp [p_total, p_total_c, p_total_c_1, fr_mk1 (T := T) (x := x), zero_div1]
  rw [xfold (xs := qs) frZ (fun q => [some (L (qs.map frZ)), some (frZ q), none]) (· + ·) 0 rfl ?h1 ?h2]
  case h1 => simp
  case h2 =>
    intro pre y post e
    refine ⟨_, bt_nm, .inl ?_⟩
    have hb : bs (pre.foldl (· + ·) 0) ≤ 1 + pre.length * (m + 1) := by
      have := sum_bs (m := m) pre 0 fun q hq => h q (by rw [e]; simp [hq])
      omega
    have hl2 : pre.length * (m + 1) ≤ qs.length * (m + 1) := Nat.mul_le_mul_right _ (by rw [e]; simp)
    have hy := h y (by rw [e]; simp)
    simp [plusZ (T := T) (x := x) (p := pre.foldl (· + ·) 0) (q := y) (k := k) (by omega), p_total_c_b1]
  simp [p_total_c_2]
end
end GS

namespace GS
open PySem PySem.Spec PyProof.Rows L2

/-! # what laws ask of fractions -/
section
variable {T : TB} {x : Nat → Nat} {k : Nat}
theorem isi_frZ [F : Fr T x] {q : Rat} : vIsi T.sub (.cls 0) (frZ q) = .ok true := by
  show Res.guard (!(T.sub 0).isEmpty) (.ok (decide (0 ∈ T.sub 0))) = _
  rw [F.sub]; simp
theorem lawis_run [F : Fr T x] [Lib T x 2 p_law_whole] [Lib T x 4 p_law_divisor] [P : Lib T x 5 p_law_is] (q : Rat) (t b : Int) (m1 : mulOk q.num b = true) (m2 : mulOk t q.den = true) :
    cl T (k + 2) (x 5) [frZ q, .int t, .int b] = .ok (.bl (decide (q.num * b = t * q.den))) := by
  rw [cl_eq P.eq rfl rfl]
  have hgcd : (Int.gcd q.num q.den : Int) = 1 := by
    have : Int.gcd q.num q.den = 1 := q.reduced
    rw [this]; rfl
  have h1 := q.den_pos
  have h2 : ¬ ((q.den : Int) < 1) := by omega
  simp [p_law_is, F.ok1, F.ok2, isi_frZ (T := T) (x := x), hgcd, h2, m1, m2]
theorem cross_of {q : Rat} {t b : Int} (h : q = Rat.divInt t b) (hb : b ≠ 0) : q.num * b = t * q.den := by
  have e := Rat.num_divInt_den q
  rw [h] at e
  have h1 := (Rat.divInt t b).den_pos
  rw [h]
  exact (Rat.divInt_eq_divInt_iff (by omega) hb).mp e
theorem lawis_ok [F : Fr T x] [Lib T x 2 p_law_whole] [Lib T x 4 p_law_divisor] [P : Lib T x 5 p_law_is] {q : Rat} {t b : Int} (h : q = Rat.divInt t b) (hb : b ≠ 0) {n : Nat} (h1 : t.natAbs < 2 ^ n) (h2 : b.natAbs < 2 ^ n) (hn : n ≤ 40000) : cl T (k + 2) (x 5) [frZ q, .int t, .int b] = .ok (.bl true) := by
  have hq : bs q ≤ n := by rw [h]; exact bs_of hb h1 h2
  rw [lawis_run q t b (mulOk_bs (bs_num q) h2 (by omega)) (mulOk_bs h1 (bs_den' q) (by omega)), decide_eq_true (cross_of h hb)]
end
@[simp] theorem cut_ints {ns : List Int} {lo hi : Option Int} : cutD (ns.map D.int) lo hi = (cutD ns lo hi).map D.int := cutD_map _ _ _ _
end GS

namespace GS
open PySem PySem.Spec PyProof.Rows L2

theorem lt_all0 {P : Nat → Prop} : ∀ f, f < 0 → P f := fun f h => absurd h (Nat.not_lt_zero f)
theorem lt_allS {P : Nat → Prop} {n : Nat} (h : ∀ f, f < n → P f) (hn : P n) : ∀ f, f < n + 1 → P f := fun f hf => by
  by_cases e : f = n
  · rw [e]; exact hn
  · exact h f (by omega)
/-! # dicts by texts -/
def dget {α : Type} : List (Str × α) → Str → Option α
  | [], _ => none
  | p :: m, k => if p.1 = k then some p.2 else dget m k
def dput {α : Type} : List (Str × α) → Str → α → List (Str × α)
  | [], k, v => [(k, v)]
  | p :: m, k, v => if p.1 = k then (k, v) :: m else p :: dput m k v
def dkeys {α : Type} (m : List (Str × α)) : List Str := m.map (·.1)
/-- a dict as it is laid -/
def dicZ {α : Type} (f : α → D) (m : List (Str × α)) : D := .dic .fz (m.map fun p => Sum.inr p.1) (m.map fun p => f p.2)
section
variable {α β : Type} {f : α → D}
theorem dget_at (m : List (Str × α)) (k : Str) : atKeyD (.inr k) (m.map fun p => Sum.inr p.1) (m.map fun p => f p.2) = (dget m k).map f := by
  induction m with
  | nil => rfl
  | cons p m ih =>
    show (if (Sum.inr p.1 : Key) = .inr k then some (f p.2) else _) = _
    unfold dget
    by_cases h : p.1 = k
    · rw [if_pos (by rw [h]), if_pos h]; rfl
    · rw [if_neg (fun e => h (Sum.inr.inj e)), if_neg h, ih]
theorem any_keys (m : List (Str × α)) (k : Str) : ((m.map fun p => (Sum.inr p.1 : Key)).any fun q => decide (q = .inr k)) = decide (k ∈ dkeys m) := by
  induction m with
  | nil => rfl
  | cons p m ih =>
    rw [List.map_cons, List.any_cons, ih]
    unfold dkeys
    by_cases h : p.1 = k
    · subst h; simp
    · have h2 : ¬ (Sum.inr p.1 : Key) = .inr k := fun e => h (Sum.inr.inj e)
      rw [decide_eq_false h2]
      have h3 : ¬ k = p.1 := fun e => h e.symm
      simp [h3]
@[simp] theorem in_dic {m : List (Str × α)} {k : Str} : vCop .isin (.str k) (dicZ f m) = .ok (decide (k ∈ dkeys m)) := by
  show Res.ofOpt (some ((m.map fun p => (Sum.inr p.1 : Key)).any fun q => decide (q = .inr k))) = _
  rw [any_keys]; rfl
theorem notin_of {x y : D} {b : Bool} (h : vCop .isin x y = .ok b) : vCop .notin x y = .ok (!b) := by
  have h2 : vIn x y = .ok b := h
  show (vIn x y).bind (fun b => .ok (!b)) = _
  rw [h2]; rfl
@[simp] theorem notin_dic {m : List (Str × α)} {k : Str} : vCop .notin (.str k) (dicZ f m) = .ok (!decide (k ∈ dkeys m)) := notin_of in_dic
@[simp] theorem ix_dic {m : List (Str × α)} {k : Str} : vIx (dicZ f m) (.str k) = Res.ofOpt ((dget m k).map f) := by
  show Res.ofOpt (atKeyD _ _ _) = _
  rw [dget_at]
@[simp] theorem get2_dic {m : List (Str × α)} {k : Str} {y : D} : vBmtZ .get2 (dicZ f m) [.str k, y] = .ok (((dget m k).map f).getD y) := by
  show Res.ok ((atKeyD _ _ _).getD y) = _
  rw [dget_at]
@[simp] theorem r_get2 {m : List (Str × α)} : bmtR .get2 (dicZ f m) = true := rfl
@[simp] theorem r_vals {m : List (Str × α)} : bmtR .vals (dicZ f m) = true := rfl
@[simp] theorem vals_dic {m : List (Str × α)} : vBmtZ .vals (dicZ f m) [] = .ok (L (m.map fun p => f p.2)) := rfl
@[simp] theorem len_dic {m : List (Str × α)} : vBltZ .len [dicZ f m] = .ok (.int m.length) := by
  show Res.ok (D.int ((m.map fun p => (Sum.inr p.1 : Key)).length : Nat)) = _
  rw [List.length_map]
@[simp] theorem list_dic {m : List (Str × α)} : vBltZ .list [dicZ f m] = .ok (L ((dkeys m).map .str)) := by
  show Res.ok (D.lst .fz ((m.map fun p => (Sum.inr p.1 : Key)).map keyD)) = _
  unfold dkeys
  rw [List.map_map, List.map_map]; rfl
@[simp] theorem dict_dic {m : List (Str × α)} : vBltZ .dict [dicZ f m] = .ok (dicZ f m) := rfl
theorem vd_dicZ {m : List (Str × α)} : vDicZ (dicZ f m) = .ok (m.map fun p => Sum.inr p.1, m.map fun p => f p.2) := rfl
theorem seq_keys (m : List (Str × α)) : (m.map fun p => (Sum.inr p.1 : Key)).map keyD = (dkeys m).map .str := by
  unfold dkeys; rw [List.map_map, List.map_map]; rfl
theorem dput_keys (m : List (Str × α)) (k : Str) (v : α) : (dput m k v).map (fun p => (Sum.inr p.1 : Key)) = if k ∈ dkeys m then m.map (fun p => Sum.inr p.1) else m.map (fun p => Sum.inr p.1) ++ [.inr k] := by
  induction m with
  | nil => rfl
  | cons p m ih =>
    unfold dput
    by_cases h : p.1 = k
    · rw [if_pos h]
      have : k ∈ dkeys (p :: m) := by unfold dkeys; simp [h]
      rw [if_pos this]
      simp [h]
    · rw [if_neg h, List.map_cons, ih]
      have h3 : ¬ k = p.1 := fun e => h e.symm
      have : (k ∈ dkeys (p :: m)) ↔ k ∈ dkeys m := by unfold dkeys; simp [h3]
      by_cases hk : k ∈ dkeys m
      · rw [if_pos hk, if_pos (this.mpr hk)]; rfl
      · rw [if_neg hk, if_neg (fun z => hk (this.mp z))]; rfl
theorem dput_vals (m : List (Str × α)) (k : Str) (v : α) : (dput m k v).map (fun p => f p.2) = if k ∈ dkeys m then setKey (.inr k) (f v) (m.map fun p => Sum.inr p.1) (m.map fun p => f p.2) else m.map (fun p => f p.2) ++ [f v] := by
  induction m with
  | nil => rfl
  | cons p m ih =>
    unfold dput
    by_cases h : p.1 = k
    · rw [if_pos h]
      have : k ∈ dkeys (p :: m) := by unfold dkeys; simp [h]
      rw [if_pos this]
      show f v :: m.map _ = (if (Sum.inr p.1 : Key) = .inr k then _ else _)
      rw [if_pos (by rw [h])]
    · rw [if_neg h, List.map_cons, ih]
      have h3 : ¬ k = p.1 := fun e => h e.symm
      have h4 : ¬ (Sum.inr p.1 : Key) = .inr k := fun e => h (Sum.inr.inj e)
      have : (k ∈ dkeys (p :: m)) ↔ k ∈ dkeys m := by unfold dkeys; simp [h3]
      by_cases hk : k ∈ dkeys m
      · rw [if_pos hk, if_pos (this.mpr hk)]
        show _ = (if (Sum.inr p.1 : Key) = .inr k then _ else _)
        rw [if_neg h4]
      · rw [if_neg hk, if_neg (fun z => hk (this.mp z))]; rfl
theorem put_dic {m : List (Str × α)} {k : Str} {v : α} {y : D} (hy : y = f v) (h : m.length < 16777216) : putZ (.str k) y (dicZ f m) = .ok (dicZ f (dput m k v)) := by
  subst hy
  show (Res.ofOpt (some (Sum.inr k : Key))).bind (fun q => Res.guard (decide ((m.map fun p => (Sum.inr p.1 : Key)).length < sizeLine)) (if ((m.map fun p => (Sum.inr p.1 : Key)).any fun p => decide (p = q)) = true then Res.ok (D.dic .fz (m.map fun p => Sum.inr p.1) (setKey q (f v) (m.map fun p => Sum.inr p.1) (m.map fun p => f p.2))) else Res.ok (D.dic .fz ((m.map fun p => Sum.inr p.1) ++ [q]) ((m.map fun p => f p.2) ++ [f v])))) = _
  rw [Res.ofOpt_some, Res.bind_ok, List.length_map, decide_eq_true (by unfold sizeLine; omega), Res.guard_true, any_keys]
  unfold dicZ
  rw [dput_keys, dput_vals]
  by_cases hk : k ∈ dkeys m
  · rw [decide_eq_true hk, if_pos rfl, if_pos hk, if_pos hk]
  · rw [decide_eq_false hk, if_neg (by simp), if_neg hk, if_neg hk]
theorem dic_nil : D.dic .fz [] [] = dicZ f [] := rfl
theorem dget_put (m : List (Str × α)) (k j : Str) (v : α) : dget (dput m k v) j = if k = j then some v else dget m j := by
  induction m with
  | nil => rfl
  | cons p m ih =>
    unfold dput
    by_cases h : p.1 = k
    · rw [if_pos h]
      unfold dget
      by_cases hj : k = j
      · rw [if_pos hj, if_pos hj]
      · rw [if_neg hj, if_neg hj, if_neg (by rw [h]; exact hj)]
    · rw [if_neg h]
      unfold dget
      rw [ih]
      by_cases hj : p.1 = j
      · rw [if_pos hj, if_neg (fun e => h (by rw [e]; exact hj)), if_pos hj]
      · rw [if_neg hj, if_neg hj]
theorem dkeys_put (m : List (Str × α)) (k : Str) (v : α) : dkeys (dput m k v) = if k ∈ dkeys m then dkeys m else dkeys m ++ [k] := by
  induction m with
  | nil => rfl
  | cons p m ih =>
    unfold dput
    by_cases h : p.1 = k
    · rw [if_pos h, if_pos (by unfold dkeys; simp [h])]
      unfold dkeys; simp [h]
    · rw [if_neg h]
      have h3 : ¬ k = p.1 := fun e => h e.symm
      have : (k ∈ dkeys (p :: m)) ↔ k ∈ dkeys m := by unfold dkeys; simp [h3]
      show p.1 :: dkeys (dput m k v) = _
      rw [ih]
      by_cases hk : k ∈ dkeys m
      · rw [if_pos hk, if_pos (this.mpr hk)]; rfl
      · rw [if_neg hk, if_neg (fun z => hk (this.mp z))]; rfl
theorem dput_new {m : List (Str × α)} {k : Str} {v : α} (h : k ∉ dkeys m) : dput m k v = m ++ [(k, v)] := by
  induction m with
  | nil => rfl
  | cons p m ih =>
    unfold dput
    unfold dkeys at h
    simp at h
    rw [if_neg (fun e => h.1 e.symm), ih (by unfold dkeys; simpa using h.2)]
    rfl
theorem dget_mem {m : List (Str × α)} {k : Str} : k ∈ dkeys m ↔ ∃ v, dget m k = some v := by
  induction m with
  | nil => simp [dkeys, dget]
  | cons p m ih =>
    unfold dget
    by_cases h : p.1 = k
    · rw [if_pos h]
      exact ⟨fun _ => ⟨_, rfl⟩, fun _ => by unfold dkeys; simp [h]⟩
    · rw [if_neg h, ← ih]
      have h3 : ¬ k = p.1 := fun e => h e.symm
      unfold dkeys; simp [h3]
theorem dget_none {m : List (Str × α)} {k : Str} : k ∉ dkeys m ↔ dget m k = none := by
  rw [dget_mem]
  cases dget m k <;> simp
theorem dget_in {m : List (Str × α)} {k : Str} {v : α} (h : dget m k = some v) : (k, v) ∈ m := by
  induction m with
  | nil => cases h
  | cons p m ih =>
    unfold dget at h
    split at h
    · next e => cases h; rw [← e]; simp
    · exact List.mem_cons_of_mem _ (ih h)
theorem dget_of {m : List (Str × α)} (nd : (dkeys m).Nodup) {k : Str} {v : α} (h : (k, v) ∈ m) : dget m k = some v := by
  induction m with
  | nil => cases h
  | cons p m ih =>
    unfold dkeys at nd
    rw [List.map_cons, List.nodup_cons] at nd
    unfold dget
    rcases List.mem_cons.mp h with e | h
    · subst e; rw [if_pos rfl]
    · rw [if_neg, ih nd.2 h]
      intro e
      exact nd.1 (by rw [e]; exact List.mem_map.mpr ⟨_, h, rfl⟩)
theorem put_nodup {m : List (Str × α)} {k : Str} {v : α} (nd : (dkeys m).Nodup) : (dkeys (dput m k v)).Nodup := by
  rw [dkeys_put]
  split
  · exact nd
  · next h => exact List.nodup_append.mpr ⟨nd, by simp, fun a ha b hb => by
      have : b = k := by simpa using hb
      subst this
      exact fun e => h (by rw [← e]; exact ha)⟩
theorem put_len (m : List (Str × α)) (k : Str) (v : α) : (dput m k v).length ≤ m.length + 1 := by
  have h := congrArg List.length (dkeys_put m k v)
  unfold dkeys at h
  rw [List.length_map] at h
  split at h <;> simp at h <;> omega
end
/-! ## lists of texts -/
theorem allV_strs : ∀ l : List Str, allV (l.map .str) = some (l.map V.str)
  | [] => rfl
  | x :: l => by
    show (some (V.str x)).bind (fun a => (allV (l.map .str)).map fun vs => a :: vs) = _
    rw [allV_strs l]; rfl
theorem inV_strs (x : Str) (l : List Str) : inV (V.str x) (l.map V.str) = decide (x ∈ l) := by
  unfold inV
  induction l with
  | nil => rfl
  | cons y l ih =>
    rw [List.map_cons, List.any_cons, ih]
    show (eqV (V.str y) (V.str x) || _) = _
    have : eqV (V.str y) (V.str x) = decide (y = x) := by
      show (y == x) = decide (y = x)
      by_cases h : y = x
      · subst h; simp
      · rw [decide_eq_false h]; simpa using h
    rw [this]
    by_cases h : y = x
    · subst h; simp
    · have : ¬ x = y := fun e => h e.symm
      simp [h, this]
@[simp] theorem in_strs {m : Md} {x : Str} {l : List Str} : vCop .isin (.str x) (.lst m (l.map .str)) = .ok (decide (x ∈ l)) := by
  show Res.ofOpt ((some (V.str x)).bind fun a => (allV (l.map .str)).map fun vs => inV a vs) = _
  rw [allV_strs]
  show Res.ok (inV (V.str x) (l.map V.str)) = _
  rw [inV_strs]
@[simp] theorem notin_strs {m : Md} {x : Str} {l : List Str} : vCop .notin (.str x) (.lst m (l.map .str)) = .ok (!decide (x ∈ l)) := notin_of in_strs
@[simp] theorem q_str {x y : Str} : vEq (.str x) (.str y) = .ok (decide (x = y)) := rfl
@[simp] theorem isN_non : vCop .isN .non .non = .ok true := rfl
@[simp] theorem notN_non : vCop .notN .non .non = .ok false := rfl
@[simp] theorem isN_fr {q : Rat} : vCop .isN (frZ q) .non = .ok false := rfl
@[simp] theorem notN_fr {q : Rat} : vCop .notN (frZ q) .non = .ok true := rfl
end GS

namespace GS
open PySem PySem.Spec PyProof.Rows L2

/-! # ways -/
inductive Kd where
  | plain
  | grow (r : Rat)
  | leak (l : Rat)
  | store (l : Rat)
structure Wy where
  kd : Kd
  nm : Str
  sr : Str
  gl : Str
  hi : Option Rat
  co : Rat
def hiD : Option Rat → D
  | none => .non
  | some q => frZ q
def Kd.c : Kd → Nat
  | .plain => 1
  | .grow _ => 2
  | .leak _ => 3
  | .store _ => 4
def Kd.fs : Kd → List Nat
  | .plain => []
  | .grow _ => [15]
  | _ => [16]
def Kd.ds : Kd → List D
  | .plain => []
  | .grow r => [frZ r]
  | .leak l => [frZ l]
  | .store l => [frZ l]
def Kd.gain : Kd → Rat
  | .plain => 1
  | .grow r => r
  | .leak l => 1 - l
  | .store l => 1 - l
/-- the number of a way, 0 of a plain one -/
def Kd.part : Kd → Rat
  | .plain => 0
  | .grow r => r
  | .leak l => l
  | .store l => l
def wyD (w : Wy) : D := .ins .fz w.kd.c ([10, 11, 12, 13, 14] ++ w.kd.fs) ([.str w.nm, .str w.sr, .str w.gl, hiD w.hi, frZ w.co] ++ w.kd.ds)
/-- the table's facts -/
class WyF (T : TB) (x : Nat → Nat) : Prop where
  ok : ([(1, 10), (1, 11), (1, 12), (1, 13), (1, 14), (2, 10), (2, 11), (2, 12), (2, 13), (2, 14), (2, 15), (3, 10), (3, 11), (3, 12), (3, 13), (3, 14), (3, 16), (4, 10), (4, 11), (4, 12), (4, 13), (4, 14), (4, 16)] : List (Nat × Nat)).all (fun p => T.fok p.1 p.2) = true
  i1 : T.init 1 = some (x 15)
  i2 : T.init 2 = some (x 20)
  i3 : T.init 3 = some (x 23)
  i4 : T.init 4 = some (x 27)
  s1 : T.sub 1 = [1]
  s2 : T.sub 2 = [2, 1]
  s3 : T.sub 3 = [3, 1]
  s4 : T.sub 4 = [4, 3, 1]
section
variable {T : TB} {x : Nat → Nat} {k : Nat}
theorem WyF.at_ [F : WyF T x] {c f : Nat} (h : (c, f) ∈ ([(1, 10), (1, 11), (1, 12), (1, 13), (1, 14), (2, 10), (2, 11), (2, 12), (2, 13), (2, 14), (2, 15), (3, 10), (3, 11), (3, 12), (3, 13), (3, 14), (3, 16), (4, 10), (4, 11), (4, 12), (4, 13), (4, 14), (4, 16)] : List (Nat × Nat))) : T.fok c f = true :=
  List.all_eq_true.mp F.ok (c, f) h
theorem wy_fok [F : WyF T x] (w : Wy) {f : Nat} (h : f ∈ ([10, 11, 12, 13, 14] : List Nat)) : T.fok w.kd.c f = true := by
  refine WyF.at_ (x := x) ?_
  obtain ⟨kd, nm, sr, gl, hi, co⟩ := w
  cases kd <;> (simp at h; simp [Kd.c]; omega)
theorem wy_fld [F : WyF T x] (w : Wy) {f : Nat} (h : f ∈ ([10, 11, 12, 13, 14] : List Nat)) : vFld T.fok f (wyD w) = Res.ofOpt (atFld f ([10, 11, 12, 13, 14] ++ w.kd.fs) ([.str w.nm, .str w.sr, .str w.gl, hiD w.hi, frZ w.co] ++ w.kd.ds)) := by
  show Res.guard (T.fok w.kd.c f) _ = _
  rw [wy_fok (x := x) w h]; rfl
theorem w_nm [F : WyF T x] (w : Wy) : vFld T.fok 10 (wyD w) = .ok (.str w.nm) := (wy_fld (x := x) w (by simp)).trans rfl
theorem w_sr [F : WyF T x] (w : Wy) : vFld T.fok 11 (wyD w) = .ok (.str w.sr) := (wy_fld (x := x) w (by simp)).trans rfl
theorem w_gl [F : WyF T x] (w : Wy) : vFld T.fok 12 (wyD w) = .ok (.str w.gl) := (wy_fld (x := x) w (by simp)).trans rfl
theorem w_hi [F : WyF T x] (w : Wy) : vFld T.fok 13 (wyD w) = .ok (hiD w.hi) := (wy_fld (x := x) w (by simp)).trans rfl
theorem w_co [F : WyF T x] (w : Wy) : vFld T.fok 14 (wyD w) = .ok (frZ w.co) := (wy_fld (x := x) w (by simp)).trans rfl
theorem w_rate [F : WyF T x] {r : Rat} {nm sr gl : Str} {hi : Option Rat} {co : Rat} : vFld T.fok 15 (wyD ⟨.grow r, nm, sr, gl, hi, co⟩) = .ok (frZ r) := by
  show Res.guard (T.fok 2 15) _ = _
  rw [WyF.at_ (x := x) (by decide)]; rfl
theorem w_loss [F : WyF T x] {r : Rat} {nm sr gl : Str} {hi : Option Rat} {co : Rat} : vFld T.fok 16 (wyD ⟨.leak r, nm, sr, gl, hi, co⟩) = .ok (frZ r) := by
  show Res.guard (T.fok 3 16) _ = _
  rw [WyF.at_ (x := x) (by decide)]; rfl
theorem w_lossS [F : WyF T x] {r : Rat} {nm sr gl : Str} {hi : Option Rat} {co : Rat} : vFld T.fok 16 (wyD ⟨.store r, nm, sr, gl, hi, co⟩) = .ok (frZ r) := by
  show Res.guard (T.fok 4 16) _ = _
  rw [WyF.at_ (x := x) (by decide)]; rfl
/-- a method, called at an instance -/
theorem mt_ins {m g c : Nat} [M : Mth T x c m g] {fs : List Nat} {vs : List D} (hm : m ∉ fs) (ds : List D) : mt T k (.ins .fz c fs vs) m (.ok ds) = cl T k (x g) (.ins .fz c fs vs :: ds) := by
  show (match T.meth c m with
    | some f => Res.guard (!(fs.any fun g => decide (g = m))) <| (Res.ok ds).bind fun ds => cl T k f (.ins .fz c fs vs :: ds)
    | none => .stuck) = _
  rw [M.eq]
  have : (fs.any fun g => decide (g = m)) = false := by
    rw [List.any_eq_false]
    intro y hy e
    have : y = m := by simpa using e
    exact hm (by rw [← this]; exact hy)
  rw [this]; rfl
theorem one_div1 : Rat.divInt 1 1 = 1 := by decide +kernel
theorem bs_one : bs 1 = 1 := by decide +kernel
theorem bs_zero : bs 0 = 1 := by decide +kernel
theorem kd_fs (q : Kd) {m : Nat} (h : m ∈ q.fs) : m = 15 ∨ m = 16 := by cases q <;> simp [Kd.fs] at h <;> omega
theorem mt_wy {w : Wy} {m g : Nat} (M : Mth T x w.kd.c m g) (hm : 16 < m) (ds : List D) : mt T k (wyD w) m (.ok ds) = cl T k (x g) (wyD w :: ds) := by
  refine mt_ins (M := M) (fun h => ?_) ds
  rcases List.mem_append.mp h with h | h
  · simp at h; omega
  · have := kd_fs _ h; omega
/-! ### gain, out -/
theorem gainZ [F : Fr T x] [G : WyF T x] [Lib T x 9 p_Fraction_minus] [Mth T x 0 3 9] [P1 : Lib T x 17 p_Way_gain] [P2 : Lib T x 21 p_Growing_gain] [P3 : Lib T x 24 p_Leaking_gain] [Mth T x 1 18 17] [Mth T x 2 18 21] [Mth T x 3 18 24] [Mth T x 4 18 24] {w : Wy} (h : bs w.kd.part ≤ 6000) :
    mt T (k + 5) (wyD w) 18 (.ok []) = .ok (frZ w.kd.gain) := by
  obtain ⟨kd, nm, sr, gl, hi, co⟩ := w
  have b1 := bs_one
  cases kd with
  | plain =>
    rw [mt_wy (x := x) (g := 17) (inferInstanceAs (Mth T x 1 18 17)) (by omega), cl_eq P1.eq rfl rfl]
    simp [p_Way_gain, fr_mk1 (T := T) (x := x), one_div1]
    rfl
  | grow r =>
    rw [mt_wy (x := x) (g := 21) (inferInstanceAs (Mth T x 2 18 21)) (by omega), cl_eq P2.eq rfl rfl]
    simp [p_Growing_gain, w_rate (x := x)]
    rfl
  | leak l =>
    have h : bs l ≤ 6000 := h
    rw [mt_wy (x := x) (g := 24) (inferInstanceAs (Mth T x 3 18 24)) (by omega), cl_eq P3.eq rfl rfl]
    simp [p_Leaking_gain, w_loss (x := x), fr_mk1 (T := T) (x := x), one_div1, minusZ (T := T) (x := x) (k := k) (p := 1) (q := l) (by omega)]
    rfl
  | store l =>
    have h : bs l ≤ 6000 := h
    rw [mt_wy (x := x) (g := 24) (inferInstanceAs (Mth T x 4 18 24)) (by omega), cl_eq P3.eq rfl rfl]
    simp [p_Leaking_gain, w_lossS (x := x), fr_mk1 (T := T) (x := x), one_div1, minusZ (T := T) (x := x) (k := k) (p := 1) (q := l) (by omega)]
    rfl
theorem bs_gain (q : Kd) : bs q.gain ≤ bs q.part + 2 := by
  have b1 := bs_one
  cases q with
  | plain => show bs 1 ≤ _; omega
  | grow r => show bs r ≤ bs r + 2; omega
  | leak l => have := bs_sub 1 l; show bs (1 - l) ≤ bs l + 2; omega
  | store l => have := bs_sub 1 l; show bs (1 - l) ≤ bs l + 2; omega
theorem out_leak (q l : Rat) : q - q * l = q * (1 - l) := by grind
theorem outZ [F : Fr T x] [G : WyF T x] [Lib T x 9 p_Fraction_minus] [Lib T x 10 p_Fraction_times] [Mth T x 0 3 9] [Mth T x 0 4 10] [P1 : Lib T x 17 p_Way_gain] [P2 : Lib T x 21 p_Growing_gain] [P3 : Lib T x 24 p_Leaking_gain] [Q1 : Lib T x 18 p_Way_out] [Q2 : Lib T x 25 p_Leaking_out] [Mth T x 1 18 17] [Mth T x 2 18 21] [Mth T x 3 18 24] [Mth T x 4 18 24]
    [Mth T x 1 19 18] [Mth T x 2 19 18] [Mth T x 3 19 25] [Mth T x 4 19 25] {w : Wy} {q : Rat} (h : bs w.kd.part ≤ 3000) (h2 : bs q ≤ 2000) :
    mt T (k + 6) (wyD w) 19 (.ok [frZ q]) = .ok (frZ (q * w.kd.gain)) := by
  have e := gainZ (T := T) (x := x) (k := k) (w := w) (by omega)
  have hg := bs_gain w.kd
  have e2 := timesZ (T := T) (x := x) (k := k + 1) (p := q) (q := w.kd.gain) (by omega)
  have e3 := timesZ (T := T) (x := x) (k := k + 1) (p := q) (q := w.kd.part) (by omega)
  have hm := bs_mul q w.kd.part
  have e4 := minusZ (T := T) (x := x) (k := k + 1) (p := q) (q := q * w.kd.part) (by omega)
  obtain ⟨kd, nm, sr, gl, hi, co⟩ := w
  cases kd with
  | plain =>
    rw [mt_wy (x := x) (g := 18) (inferInstanceAs (Mth T x 1 19 18)) (by omega), cl_eq Q1.eq rfl rfl]
    simp [p_Way_out, e, e2]
  | grow r =>
    rw [mt_wy (x := x) (g := 18) (inferInstanceAs (Mth T x 2 19 18)) (by omega), cl_eq Q1.eq rfl rfl]
    simp [p_Way_out, e, e2]
  | leak l =>
    rw [mt_wy (x := x) (g := 25) (inferInstanceAs (Mth T x 3 19 25)) (by omega), cl_eq Q2.eq rfl rfl]
    simp [Kd.part] at e3 e4
    simp [p_Leaking_out, w_loss (x := x), e3, e4]
    show _ = frZ (q * (1 - l))
    rw [out_leak]
  | store l =>
    rw [mt_wy (x := x) (g := 25) (inferInstanceAs (Mth T x 4 19 25)) (by omega), cl_eq Q2.eq rfl rfl]
    simp [Kd.part] at e3 e4
    simp [p_Leaking_out, w_lossS (x := x), e3, e4]
    show _ = frZ (q * (1 - l))
    rw [out_leak]
end
end GS

namespace GS
open PySem PySem.Spec PyProof.Rows L2

/-! # ways, made -/
section
variable {T : TB} {x : Nat → Nat} {k : Nat}
@[simp] theorem isN_hi {h : Option Rat} : vCop .isN (hiD h) .non = .ok (decide (h = none)) := by cases h <;> rfl
@[simp] theorem notN_hi {h : Option Rat} : vCop .notN (hiD h) .non = .ok (decide (h ≠ none)) := by cases h <;> rfl
theorem sgn_neg {q : Rat} (h : 0 ≤ q) : ¬ sgn q < 0 := by
  unfold sgn
  split
  · omega
  · split
    · next h2 => exact absurd h2 (Rat.not_lt.mpr h)
    · omega
theorem sgn_pos {q : Rat} (h : 0 < q) : sgn q = 1 := by unfold sgn; rw [if_pos h]
/-- is it at one place -/
theorem staysZ [P1 : Lib T x 16 p_Way_stays] [P2 : Lib T x 28 p_Store_stays] [Mth T x 1 17 16] [Mth T x 2 17 16] [Mth T x 3 17 16] [Mth T x 4 17 28] (q : Kd) : mt T (k + 1) (.ins .fz q.c [] []) 17 (.ok []) = .ok (.bl (decide (q.c = 4))) := by
  cases q with
  | plain =>
    show mt T (k + 1) (.ins .fz 1 [] []) 17 (.ok []) = _
    rw [mt_ins (x := x) (g := 16) (c := 1) (M := inferInstanceAs (Mth T x 1 17 16)) (by simp), cl_eq P1.eq rfl rfl]
    simp [p_Way_stays, Kd.c]
  | grow r =>
    show mt T (k + 1) (.ins .fz 2 [] []) 17 (.ok []) = _
    rw [mt_ins (x := x) (g := 16) (c := 2) (M := inferInstanceAs (Mth T x 2 17 16)) (by simp), cl_eq P1.eq rfl rfl]
    simp [p_Way_stays, Kd.c]
  | leak l =>
    show mt T (k + 1) (.ins .fz 3 [] []) 17 (.ok []) = _
    rw [mt_ins (x := x) (g := 16) (c := 3) (M := inferInstanceAs (Mth T x 3 17 16)) (by simp), cl_eq P1.eq rfl rfl]
    simp [p_Way_stays, Kd.c]
  | store l =>
    show mt T (k + 1) (.ins .fz 4 [] []) 17 (.ok []) = _
    rw [mt_ins (x := x) (g := 28) (c := 4) (M := inferInstanceAs (Mth T x 4 17 28)) (by simp), cl_eq P2.eq rfl rfl]
    simp [p_Store_stays, Kd.c]
theorem fput_new {ok : Nat → Nat → Bool} {c f : Nat} {fs : List Nat} {ds : List D} {y : D} (h : ok c f = true) (hl : fs.length < 900) (hn : f ∉ fs) : fputZ ok f y (.ins .fz c fs ds) = .ok (.ins .fz c (fs ++ [f]) (ds ++ [y])) := by
  show Res.guard (ok c f && decide (fs.length < 900)) (if fs.any (fun p => decide (p = f)) then _ else _) = _
  rw [h, decide_eq_true hl]
  have : (fs.any fun p => decide (p = f)) = false := by
    rw [List.any_eq_false]
    intro y hy e
    exact hn (by have : y = f := by simpa using e
                 rw [← this]; exact hy)
  rw [this]; rfl
/-- Way.__init__ at an instance of any of the four classes -/
theorem way_initZ [F : Fr T x] [G : WyF T x] [Lib T x 14 p_Fraction_sign] [Mth T x 0 8 14] [Lib T x 16 p_Way_stays] [Lib T x 28 p_Store_stays] [Mth T x 1 17 16] [Mth T x 2 17 16] [Mth T x 3 17 16] [Mth T x 4 17 28] (q : Kd) {n s g : Str} {h co : Option Rat} (hs : s = g → q.c = 4) (hh : ∀ q, h = some q → 0 ≤ q) :
    exZs (ZG T (k + 3)) whileV (p_Way__init x).code [some (.ins .fz q.c [] []), some (.str n), some (.str s), some (.str g), some (hiD h), some (hiD co)] =
      .nx [some (.ins .fz q.c [10, 11, 12, 13, 14] [.str n, .str s, .str g, hiD h, frZ (co.getD 0)]), some (.str n), some (.str s), some (.str g), some (hiD h), some (hiD co)] := by
  have ok : ∀ f, f ∈ ([10, 11, 12, 13, 14] : List Nat) → T.fok q.c f = true := fun f hf => wy_fok (x := x) ⟨q, n, s, g, h, 0⟩ hf
  have o1 := ok 10 (by simp)
  have o2 := ok 11 (by simp)
  have o3 := ok 12 (by simp)
  have o4 := ok 13 (by simp)
  have o5 := ok 14 (by simp)
  have t1 : exZ (ZG T (k + 3)) whileV (.ite (.and [.cmp .eq (.var 2) (.var 3), .not (.met (.var 0) 17 [])]) [.rai 15 [.var 1]] []) [some (.ins .fz q.c [] []), some (.str n), some (.str s), some (.str g), some (hiD h), some (hiD co)] = .nx [some (.ins .fz q.c [] []), some (.str n), some (.str s), some (.str g), some (hiD h), some (hiD co)] := by
    by_cases e : s = g
    · have st := staysZ (T := T) (x := x) (k := k + 2) q
      rw [hs e] at st ⊢
      simp [e, st]
    · simp [e]
  have t2 : exZ (ZG T (k + 3)) whileV (.ite (.and [.cmp .notN (.var 4) (.cst .non), .cmp .lt (.met (.var 4) 8 []) (.cst (.int 0))]) [.rai 15 [.var 1]] []) [some (.ins .fz q.c [] []), some (.str n), some (.str s), some (.str g), some (hiD h), some (hiD co)] = .nx [some (.ins .fz q.c [] []), some (.str n), some (.str s), some (.str g), some (hiD h), some (hiD co)] := by
    cases h with
    | none => simp
    | some r =>
      have := sgn_neg (hh r rfl)
      simp [hiD, signZ (T := T) (x := x), this]
  show exZs (ZG T (k + 3)) whileV (_ :: _ :: _) _ = _
  rw [zs_cons, t1, Out.bind_nx, zs_cons, t2, Out.bind_nx]
  cases co with
  | none => simp [fputZ, o1, o2, o3, o4, o5, hiD, setFld, fr_mk1 (T := T) (x := x), zero_div1]
  | some c => simp [fputZ, o1, o2, o3, o4, o5, hiD, setFld]
/-- C.__init__(self, ..), by its body -/
theorem ini_eq {c f q : Nat} {df : Df} {m : Md} {fs : List Nat} {vs ds : List D} {s s' : Sl} {d : D} (hi : T.init c = some f) (h : T.defs f = some df) (hl : (fill df (.ins .fz q fs vs :: ds)).length = df.np) (h2 : ds.length + 1 ≤ df.np)
    (he : exZs (ZG T k) whileV df.code ((fill df (.ins .fz q fs vs :: ds)).map some ++ List.replicate (df.ns - df.np) none) = .nx (some d :: s')) : iniZ T (k + 1) c (.ins m q fs vs) ds s = .nx (s.set 0 (some d)) := by
  have e : (runZ T whileV (k + 1)).1 f (.ins .fz q fs vs :: ds) = .ret .non (some d :: s') := by
    show (match T.defs f with
      | some df => if (fill df (.ins .fz q fs vs :: ds)).length = df.np ∧ (.ins .fz q fs vs :: ds).length ≤ df.np then runDfZ (GEof T k (runZ T whileV k)) whileV df (fill df (.ins .fz q fs vs :: ds)) else .stuck
      | none => .stuck : RO) = _
    rw [h]
    dsimp only
    rw [if_pos ⟨hl, h2⟩]
    unfold runDfZ startS
    rw [hl]
    show (exZs (ZG T k) whileV df.code _).toRZ = _
    rw [he]; rfl
  unfold iniZ
  rw [hi]
  dsimp only
  rw [e]
theorem mk_nx {c f : Nat} {df : Df} {as : List D} {d : D} {s' : Sl} (hi : T.init c = some f) (h : T.defs f = some df) (hl : (fill df (.ins .fz c [] [] :: as)).length = df.np) (h2 : as.length + 1 ≤ df.np)
    (he : exZs (ZG T k) whileV df.code ((fill df (.ins .fz c [] [] :: as)).map some ++ List.replicate (df.ns - df.np) none) = .nx (some d :: s')) : mkZ T (k + 2) c as = .ok d := by
  rw [mk_eq hi h hl h2, he]; rfl
variable [F : Fr T x] [G : WyF T x] [Lib T x 14 p_Fraction_sign] [Mth T x 0 8 14] [Lib T x 13 p_Fraction_under] [Mth T x 0 6 13] [W1 : Lib T x 15 p_Way__init] [W2 : Lib T x 20 p_Growing__init] [W3 : Lib T x 23 p_Leaking__init] [W4 : Lib T x 27 p_Store__init] [Lib T x 16 p_Way_stays] [Lib T x 28 p_Store_stays] [Mth T x 1 17 16] [Mth T x 2 17 16] [Mth T x 3 17 16] [Mth T x 4 17 28]
variable {n s g : Str} {h co : Option Rat} {r : Rat}
include F G W1 W2 W3 W4
theorem wayZ (hs : s ≠ g) (hh : ∀ q, h = some q → 0 ≤ q) : mkZ T (k + 5) 1 [.str n, .str s, .str g, hiD h, hiD co] = .ok (wyD ⟨.plain, n, s, g, h, co.getD 0⟩) := by
  refine mk_nx (d := wyD ⟨.plain, n, s, g, h, co.getD 0⟩) (df := p_Way__init x) (s' := [some (.str n), some (.str s), some (.str g), some (hiD h), some (hiD co)]) G.i1 W1.eq rfl (Nat.le_refl 6) ?_
  exact way_initZ (x := x) .plain (fun e => absurd e hs) hh
theorem growZ (hs : s ≠ g) (hh : ∀ q, h = some q → 0 ≤ q) (hr : 0 < r) : mkZ T (k + 6) 2 [.str n, .str s, .str g, frZ r, hiD h, hiD co] = .ok (wyD ⟨.grow r, n, s, g, h, co.getD 0⟩) := by
  refine mk_nx (df := p_Growing__init x) (s' := [some (.str n), some (.str s), some (.str g), some (frZ r), some (hiD h), some (hiD co)]) G.i2 W2.eq rfl (Nat.le_refl 7) ?_
  show exZs (ZG T (k + 4)) whileV (.ini 1 [.var 1, .var 2, .var 3, .var 5, .var 6] :: _) [some (.ins .fz 2 [] []), some (.str n), some (.str s), some (.str g), some (frZ r), some (hiD h), some (hiD co)] = _
  rw [zs_cons, zx_ini (d := .ins .fz 2 [] []) (ds := [.str n, .str s, .str g, hiD h, hiD co]) (by simp) (by simp), ini_eq (df := p_Way__init x) (q := 2) (ds := [.str n, .str s, .str g, hiD h, hiD co]) G.i1 W1.eq rfl (Nat.le_refl 6) (way_initZ (x := x) (.grow r) (fun e => absurd e hs) hh), Out.bind_nx]
  have o := WyF.at_ (T := T) (x := x) (c := 2) (f := 15) (by decide)
  simp [signZ (T := T) (x := x), sgn_pos hr, fputZ, o, Kd.c]
  rfl
theorem leak_initZ (q : Kd) (o : T.fok q.c 16 = true) (hs : s = g → q.c = 4) (hh : ∀ q, h = some q → 0 ≤ q) (h0 : 0 ≤ r) (h1 : r < 1) (hb : bs r ≤ 6000) :
    exZs (ZG T (k + 4)) whileV (p_Leaking__init x).code [some (.ins .fz q.c [] []), some (.str n), some (.str s), some (.str g), some (frZ r), some (hiD h), some (hiD co)] =
      .nx [some (.ins .fz q.c [10, 11, 12, 13, 14, 16] [.str n, .str s, .str g, hiD h, frZ (co.getD 0), frZ r]), some (.str n), some (.str s), some (.str g), some (frZ r), some (hiD h), some (hiD co)] := by
  have b1 := bs_one
  show exZs (ZG T (k + 4)) whileV (.ini 1 [.var 1, .var 2, .var 3, .var 5, .var 6] :: _) _ = _
  rw [zs_cons, zx_ini (d := .ins .fz q.c [] []) (ds := [.str n, .str s, .str g, hiD h, hiD co]) (by simp) (by simp), ini_eq (df := p_Way__init x) (q := q.c) (ds := [.str n, .str s, .str g, hiD h, hiD co]) G.i1 W1.eq rfl (Nat.le_refl 6) (way_initZ (x := x) q hs hh), Out.bind_nx]
  simp [signZ (T := T) (x := x), sgn_neg h0, fputZ, o, fr_mk1 (T := T) (x := x), one_div1, underZ (T := T) (x := x) (p := r) (q := 1) (by omega), h1]
theorem leakZ (hs : s ≠ g) (hh : ∀ q, h = some q → 0 ≤ q) (h0 : 0 ≤ r) (h1 : r < 1) (hb : bs r ≤ 6000) : mkZ T (k + 6) 3 [.str n, .str s, .str g, frZ r, hiD h, hiD co] = .ok (wyD ⟨.leak r, n, s, g, h, co.getD 0⟩) :=
  mk_nx (df := p_Leaking__init x) G.i3 W3.eq rfl (Nat.le_refl 7) (leak_initZ (x := x) (.leak r) (WyF.at_ (x := x) (c := 3) (by decide)) (fun e => absurd e hs) hh h0 h1 hb)
theorem storeZ (hh : ∀ q, h = some q → 0 ≤ q) (h0 : 0 ≤ r) (h1 : r < 1) (hb : bs r ≤ 6000) : mkZ T (k + 7) 4 [.str n, .str s, frZ r, hiD h, hiD co] = .ok (wyD ⟨.store r, n, s, s, h, co.getD 0⟩) := by
  refine mk_nx (df := p_Store__init x) (s' := [some (.str n), some (.str s), some (frZ r), some (hiD h), some (hiD co)]) G.i4 W4.eq rfl (Nat.le_refl 6) ?_
  show exZs (ZG T (k + 5)) whileV (.ini 3 [.var 1, .var 2, .var 2, .var 3, .var 4, .var 5] :: []) [some (.ins .fz 4 [] []), some (.str n), some (.str s), some (frZ r), some (hiD h), some (hiD co)] = _
  rw [zs_cons, zx_ini (d := .ins .fz 4 [] []) (ds := [.str n, .str s, .str s, frZ r, hiD h, hiD co]) (by simp) (by simp), ini_eq (df := p_Leaking__init x) (q := 4) (ds := [.str n, .str s, .str s, frZ r, hiD h, hiD co]) G.i3 W3.eq rfl (Nat.le_refl 7) (leak_initZ (x := x) (.store r) (WyF.at_ (x := x) (c := 4) (by decide)) (fun _ => rfl) hh h0 h1 hb), Out.bind_nx]
  simp
  rfl
end
end GS

namespace GS
open PySem PySem.Spec PyProof.Rows L2

/-! # texts -/
theorem str_ext {a b : Str} (h : a.cps.toList = b.cps.toList) : a = b := by
  cases a; cases b
  congr 1
  exact Array.toList_inj.mp h
theorem cps_app (a b : Str) : (a ++ b).cps.toList = a.cps.toList ++ b.cps.toList := by
  show (a.cps ++ b.cps).toList = _
  simp
@[simp] theorem len_app (a b : Str) : (a ++ b).length = a.length + b.length := by
  show (a.cps ++ b.cps).size = a.cps.size + b.cps.size
  simp
theorem app_inj {a b c : Str} (h : a ++ c = b ++ c) : a = b := by
  have := congrArg (fun x : Str => x.cps.toList) h
  simp only [cps_app] at this
  exact str_ext (List.append_cancel_right this)
theorem app_injL {a b c : Str} (h : c ++ a = c ++ b) : a = b := by
  have := congrArg (fun x : Str => x.cps.toList) h
  simp only [cps_app] at this
  exact str_ext (List.append_cancel_left this)
/-- one sign, n times -/
def rep (c n : Nat) : Str := ⟨(List.replicate n c).toArray⟩
@[simp] theorem rep_len (c n : Nat) : (rep c n).length = n := by
  show (List.replicate n c).toArray.size = n
  simp
theorem rep_cps (c n : Nat) : (rep c n).cps.toList = List.replicate n c := by
  show (List.replicate n c).toArray.toList = _
  simp
theorem fold_app (c : Nat) : ∀ (n : Nat) (a : Array Nat), (List.foldl (fun x1 x2 => x1 ++ x2) a (List.replicate n #[c])).toList = a.toList ++ List.replicate n c
  | 0, a => by simp
  | n + 1, a => by
    rw [List.replicate_succ, List.foldl_cons, fold_app c n]
    simp [List.replicate_succ]
theorem mul_rep (c n : Nat) : PySem.Txt.mul (⟨#[c]⟩ : Str) (n : Int) = rep c n := by
  refine str_ext ?_
  unfold PySem.Txt.mul
  rw [rep_cps]
  by_cases h0 : n = 0
  · subst h0; rfl
  · rw [if_neg (by omega)]
    by_cases h1 : n = 1
    · subst h1; rfl
    · have e : ((n : Int) == 1 || (⟨#[c]⟩ : Str).length == 0) = false := by
        have : ¬ (n : Int) = 1 := by omega
        simp only [beq_eq_false_iff_ne.mpr this, Bool.false_or]
        rfl
      rw [if_neg (by rw [e]; decide)]
      simp only [Int.toNat_natCast]
      rw [fold_app]
      simp
/-- a number as a text -/
def numS (i : Int) : Str := Str.ofString (toString i)
theorem chars_inj : ∀ {a b : List Char}, a.map Char.toNat = b.map Char.toNat → a = b
  | [], [], _ => rfl
  | [], b :: l, h => by simp at h
  | a :: l, [], h => by simp at h
  | a :: l, b :: m, h => by
    simp only [List.map_cons, List.cons.injEq] at h
    rw [Char.toNat_inj.mp h.1, chars_inj h.2]
theorem numS_inj {a b : Nat} (h : numS a = numS b) : a = b := by
  unfold numS at h
  rw [Str.ofString_eq_toList, Str.ofString_eq_toList] at h
  have h2 := congrArg (fun x : Str => x.cps.toList) h
  simp only at h2
  have h3 := chars_inj h2
  have e : ∀ n : Nat, (toString (n : Int)).toList = Nat.toDigits 10 n := fun n => by
    show (Nat.repr n).toList = _
    rw [Nat.repr_eq_ofList_toDigits, String.toList_ofList]
  rw [e, e] at h3
  have := congrArg (fun l => Nat.ofDigitChars 10 l 0) h3
  simpa using this
theorem numS_len {i : Int} {k : Nat} (hk : 0 < k) (h : i.natAbs < 10 ^ k) : (numS i).length ≤ k + 1 := by
  unfold numS
  rw [PySem.ofString_length]
  exact int_text_length_le10 hk h
@[simp] theorem bl_str {i : Int} (h : i.natAbs.log2 < 1920) : vBltZ .str [.int i] = .ok (.str (numS i)) := by
  show Res.guard (decide (i.natAbs.log2 < 1920)) _ = _
  rw [decide_eq_true h]; rfl
/-- a name and a turn -/
def dot (n : Str) (t : Int) : Str := n ++ "." ++ numS t
theorem dot_inj {a b : Str} {t : Int} (h : dot a t = dot b t) : a = b := app_inj (app_inj h)
theorem dot_injT {a : Str} {s t : Nat} (h : dot a s = dot a t) : s = t := numS_inj (app_injL h)
theorem dot_len {a : Str} {t : Int} {k : Nat} (hk : 0 < k) (h : t.natAbs < 10 ^ k) : (dot a t).length ≤ a.length + k + 2 := by
  have := numS_len hk h
  unfold dot
  rw [len_app, len_app]
  have e : (("." : String) : Str).length = 1 := by decide +kernel
  omega
section
variable {T : TB} {x : Nat → Nat} {k : Nat}
theorem dottedZ [P : Lib T x 11 p_dotted] {n : Str} {t : Int} (hn : n.length ≤ 10000) (ht : t.natAbs < 10 ^ 250) : cl T (k + 1) (x 11) [.str n, .int t] = .ok (.str (dot n t)) := by
  rw [cl_eq P.eq rfl rfl]
  have h2 : (numS t).length ≤ 251 := numS_len (by decide) ht
  have e : (("." : String) : Str).length = 1 := by decide +kernel
  have hl : t.natAbs.log2 < 1920 := by
    by_cases h0 : t.natAbs = 0
    · rw [h0]; decide
    · exact (Nat.log2_lt h0).mpr (Nat.lt_of_lt_of_le ht (by decide +kernel))
  have g1 : okLen (n.length + (("." : String) : Str).length) = true := line_le (by omega)
  have g2 : okLen (n.length + (("." : String) : Str).length + (numS t).length) = true := line_le (by omega)
  simp [p_dotted, g1, bl_str hl, g2]
  rfl
end
/-! ## names -/
def sgs0 : List Nat := [97, 98, 99, 100, 101, 102, 103, 104, 105, 106, 107, 108, 109, 110, 111, 112, 113, 114, 115, 116, 117, 118, 119, 120, 121, 122, 48, 49, 50, 51, 52, 53, 54, 55, 56, 57, 46]
def sg (i : Nat) : Nat := sgs0.getD i 0
theorem sg_inj {i j : Nat} (hi : i < 37) (hj : j < 37) (h : sg i = sg j) : i = j := by
  have : ∀ i < 37, ∀ j < 37, sg i = sg j → i = j := by decide +kernel
  exact this i hi j hj h
theorem signs_eq : (("abcdefghijklmnopqrstuvwxyz0123456789." : String) : Str) = ⟨sgs0.toArray⟩ := by decide +kernel
theorem ix_signs {i : Nat} (h : i < 37) : vIx (.str (("abcdefghijklmnopqrstuvwxyz0123456789." : String) : Str)) (.int i) = .ok (.str ⟨#[sg i]⟩) := by
  rw [signs_eq]
  show Res.guard (decide ((⟨sgs0.toArray⟩ : Str).length ≤ sizeLine)) (Res.ofOpt ((atI sgs0.toArray.toList (i : Int)).map fun c => D.str ⟨#[c]⟩)) = _
  rw [decide_eq_true (by unfold sizeLine; decide +kernel), Res.guard_true, at_nat]
  have : sgs0.toArray.toList[i]? = some (sg i) := by
    show sgs0[i]? = some (sgs0.getD i 0)
    have hl : i < sgs0.length := h
    rw [List.getD_eq_getElem?_getD, List.getElem?_eq_getElem hl]; rfl
  rw [this]; rfl
def nmAt (a c : Int) : Nat := ((a * (1 + c / 5 % 36) + c / 180) % 37).toNat
/-- the law's names -/
def lname (a c : Int) : Str := if c % 3 = 0 then rep (sg (c / 3 % 37).toNat) (nmAt a c + 1) else rep 120 (c / 3 % 25).toNat ++ ⟨#[sg (nmAt a c)]⟩ ++ rep 120 (c / 75 % 25).toNat
theorem nmAt_lt (a c : Int) : nmAt a c < 37 := by unfold nmAt; omega
theorem lname_len (a c : Int) : (lname a c).length ≤ 50 := by
  have := nmAt_lt a c
  unfold lname
  split
  · rw [rep_len]; omega
  · rw [len_app, len_app, rep_len, rep_len]
    have e : (⟨#[sg (nmAt a c)]⟩ : Str).length = 1 := rfl
    omega
theorem mod37 : ∀ m < 37, 0 < m → ∀ e < 37, 0 < e → (e * m) % 37 ≠ 0 := by decide +kernel
theorem nmAt_inj {a b c : Int} (ha : 0 ≤ a) (ha2 : a < 37) (hb : 0 ≤ b) (hb2 : b < 37) (h : nmAt a c = nmAt b c) : a = b := by
  unfold nmAt at h
  have key : ∀ a b : Int, 0 ≤ a → a < b → b < 37 → (a * (1 + c / 5 % 36) + c / 180) % 37 ≠ (b * (1 + c / 5 % 36) + c / 180) % 37 := by
    intro a b h0 h1 h2 h3
    obtain ⟨m, hm⟩ : ∃ m : Nat, 1 + c / 5 % 36 = (m : Int) := ⟨(1 + c / 5 % 36).toNat, by omega⟩
    obtain ⟨e, he⟩ : ∃ e : Nat, b - a = (e : Int) := ⟨(b - a).toNat, by omega⟩
    have z := mod37 m (by omega) (by omega) e (by omega) (by omega)
    rw [hm] at h3
    have hb : b = a + e := by omega
    rw [hb, Int.add_mul] at h3
    have h4 : ((e * m : Nat) : Int) % 37 = 0 := by
      have : ((e : Int) * (m : Int)) = ((e * m : Nat) : Int) := by simp
      omega
    omega
  rcases Int.lt_trichotomy a b with q | q | q
  · exact absurd (by omega) (key a b ha q hb2)
  · exact q
  · exact absurd (by omega) (key b a hb q ha2)
theorem lname_inj {a b c : Int} (ha : 0 ≤ a) (ha2 : a < 37) (hb : 0 ≤ b) (hb2 : b < 37) (h : lname a c = lname b c) : a = b := by
  refine nmAt_inj ha ha2 hb hb2 (c := c) ?_
  unfold lname at h
  split at h
  · have := congrArg Str.length h
    rw [rep_len, rep_len] at this
    omega
  · have h2 := app_injL (app_inj h)
    have : sg (nmAt a c) = sg (nmAt b c) := by
      have := congrArg (fun x : Str => x.cps.toList) h2
      simpa using this
    exact sg_inj (nmAt_lt a c) (nmAt_lt b c) this
section
variable {T : TB} {x : Nat → Nat} {k : Nat}
theorem smul1 {c n : Nat} (h : n ≤ 1000) : smulOk (⟨#[c]⟩ : Str) (n : Int) = true := by
  have e : (⟨#[c]⟩ : Str).length = 1 := rfl
  unfold smulOk
  rw [decide_eq_true (by omega), decide_eq_true (by omega), decide_eq_true (by rw [e]; simp; omega)]
  rfl
theorem bz_rep {c : Nat} {i : Int} (h0 : 0 ≤ i) (h : i ≤ 1000) : vBopZ .mul (.str ⟨#[c]⟩) (.int i) = .ok (.str (rep c i.toNat)) := by
  obtain ⟨n, rfl⟩ : ∃ n : Nat, i = n := ⟨i.toNat, by omega⟩
  rw [bz_smul, smul1 (by omega), mul_rep, Int.toNat_natCast]; rfl
theorem x_str : (("x" : String) : Str) = ⟨#[120]⟩ := by decide +kernel
theorem ix_signsI {i : Int} (h0 : 0 ≤ i) (h : i < 37) : vIx (.str (("abcdefghijklmnopqrstuvwxyz0123456789." : String) : Str)) (.int i) = .ok (.str ⟨#[sg i.toNat]⟩) := by
  obtain ⟨n, rfl⟩ : ∃ n : Nat, i = n := ⟨i.toNat, by omega⟩
  rw [ix_signs (by omega), Int.toNat_natCast]
theorem lnameZ [P : Lib T x 12 p_law_name] {a c : Int} (h0 : 0 ≤ a) (h1 : a < 1000) : cl T (k + 1) (x 12) [.int a, .int c] = .ok (.str (lname a c)) := by
  rw [cl_eq P.eq rfl rfl]
  have hk := nmAt_lt a c
  have e0 : ((a * (1 + c / 5 % 36) + c / 180) % 37) = (nmAt a c : Int) := by unfold nmAt; omega
  have m1 : mulOk a (1 + c / 5 % 36) = true := mulOk_ls (by omega) (by omega)
  by_cases hc : c % 3 = 0
  · simp [p_law_name, m1, e0, hc, ix_signsI (i := c / 3 % 37) (by omega) (by omega), bz_rep (c := sg (c / 3 % 37).toNat) (i := (nmAt a c : Int) + 1) (by omega) (by omega)]
    unfold lname
    rw [if_pos hc] <;> rfl
  · have l1 : okLen ((rep 120 (c / 3 % 25).toNat).length + (⟨#[sg (nmAt a c)]⟩ : Str).length) = true := by
      have e : (⟨#[sg (nmAt a c)]⟩ : Str).length = 1 := rfl
      exact line_le (by rw [rep_len, e]; omega)
    have l2 : okLen ((rep 120 (c / 3 % 25).toNat ++ ⟨#[sg (nmAt a c)]⟩).length + (rep 120 (c / 75 % 25).toNat).length) = true := by
      have e : (⟨#[sg (nmAt a c)]⟩ : Str).length = 1 := rfl
      exact line_le (by rw [len_app, rep_len, rep_len, e]; omega)
    have i1 := ix_signsI (i := (nmAt a c : Int)) (by omega) (by omega)
    have r1 := bz_rep (c := 120) (i := c / 3 % 25) (by omega) (by omega)
    have r2 := bz_rep (c := 120) (i := c / 75 % 25) (by omega) (by omega)
    simp [p_law_name, m1, e0, hc, i1, x_str, r1, r2, -bz_smul, -len_app, -rep_len, l1, l2]
    unfold lname
    rw [if_neg hc] <;> rfl
end
end GS

namespace GS
open PySem PySem.Spec PyProof.Rows L2

/-! # fractions of two numbers -/
theorem qf_lt1 {a b : Int} (h : a < b) (hb : 0 < b) : Rat.divInt a b < 1 := by
  have c := cross_of (q := Rat.divInt a b) rfl (show b ≠ 0 by omega)
  have d := (Rat.divInt a b).den_pos
  rw [Rat.lt_iff]
  have h1 : a * (Rat.divInt a b).den < b * (Rat.divInt a b).den := Int.mul_lt_mul_of_pos_right h (by omega)
  rw [← c, Int.mul_comm b] at h1
  have := Int.lt_of_mul_lt_mul_right h1 (by omega)
  simpa using this
theorem qf_pos {a b : Int} (h : 0 < a) (hb : 0 < b) : 0 < Rat.divInt a b := by
  have c := cross_of (q := Rat.divInt a b) rfl (show b ≠ 0 by omega)
  have d := (Rat.divInt a b).den_pos
  rw [Rat.lt_iff]
  have h1 : 0 * b < (Rat.divInt a b).num * b := by
    rw [c, Int.zero_mul]
    exact Int.mul_pos h (by omega)
  have := Int.lt_of_mul_lt_mul_right h1 (by omega)
  simpa using this
theorem qf_nn {a b : Int} (h : 0 ≤ a) (hb : 0 < b) : 0 ≤ Rat.divInt a b := Rat.divInt_nonneg h (by omega)
/-! # ways of a turn -/
def Kd.ok : Kd → Prop
  | .plain => True
  | .grow r => 0 < r
  | .leak l => 0 ≤ l ∧ l < 1
  | .store l => 0 ≤ l ∧ l < 1
/-- a way that can be -/
structure WyOk (w : Wy) : Prop where
  ends : w.sr = w.gl ↔ w.kd.c = 4
  hi : ∀ q, w.hi = some q → 0 ≤ q
  kd : w.kd.ok
  sm : bs w.kd.part ≤ 3000
def Wy.turn (w : Wy) (t : Int) : Wy := match w.kd with
  | .store l => ⟨.leak l, dot w.nm t, dot w.sr t, dot w.gl (t + 1), w.hi, w.co⟩
  | kd => ⟨kd, dot w.nm t, dot w.sr t, dot w.gl t, w.hi, w.co⟩
section
variable {T : TB} {x : Nat → Nat} {k : Nat}
variable [F : Fr T x] [G : WyF T x] [Lib T x 14 p_Fraction_sign] [Mth T x 0 8 14] [Lib T x 13 p_Fraction_under] [Mth T x 0 6 13] [W1 : Lib T x 15 p_Way__init] [W2 : Lib T x 20 p_Growing__init] [W3 : Lib T x 23 p_Leaking__init] [W4 : Lib T x 27 p_Store__init] [Lib T x 16 p_Way_stays] [Lib T x 28 p_Store_stays] [Mth T x 1 17 16] [Mth T x 2 17 16] [Mth T x 3 17 16] [Mth T x 4 17 28]
include F G W1 W2 W3 W4
theorem mk_wyZ {nm sr gl : Str} {hi : Option Rat} {co : Rat} {kd : Kd} (h : WyOk ⟨kd, nm, sr, gl, hi, co⟩) : (match kd with
    | .plain => mkZ T (k + 7) 1 [.str nm, .str sr, .str gl, hiD hi, frZ co]
    | .grow r => mkZ T (k + 7) 2 [.str nm, .str sr, .str gl, frZ r, hiD hi, frZ co]
    | .leak l => mkZ T (k + 7) 3 [.str nm, .str sr, .str gl, frZ l, hiD hi, frZ co]
    | .store l => mkZ T (k + 7) 4 [.str nm, .str sr, frZ l, hiD hi, frZ co]) = .ok (wyD ⟨kd, nm, sr, gl, hi, co⟩) := by
  obtain ⟨h1, h2, h3, h4⟩ := h
  cases kd with
  | plain => exact wayZ (x := x) (k := k + 2) (co := some co) (fun e => absurd (h1.mp e) (by decide : ¬ (1 = 4))) h2
  | grow r => exact growZ (x := x) (k := k + 1) (co := some co) (fun e => absurd (h1.mp e) (by decide : ¬ (2 = 4))) h2 h3
  | leak l => exact leakZ (x := x) (k := k + 1) (co := some co) (fun e => absurd (h1.mp e) (by decide : ¬ (3 = 4))) h2 h3.1 h3.2 (by have : bs l ≤ 3000 := h4; omega)
  | store l =>
    have e : sr = gl := h1.mpr rfl
    subst e
    exact storeZ (x := x) (k := k) (co := some co) h2 h3.1 h3.2 (by have : bs l ≤ 3000 := h4; omega)
variable [Lib T x 11 p_dotted] [Q1 : Lib T x 19 p_Way_at_turn] [Q2 : Lib T x 22 p_Growing_at_turn] [Q3 : Lib T x 26 p_Leaking_at_turn] [Q4 : Lib T x 29 p_Store_at_turn] [Mth T x 1 20 19] [Mth T x 2 20 22] [Mth T x 3 20 26] [Mth T x 4 20 29]
include Q1 Q2 Q3 Q4
theorem turnZ {w : Wy} {t : Int} (h : WyOk w) (l1 : w.nm.length ≤ 5000) (l2 : w.sr.length ≤ 5000) (l3 : w.gl.length ≤ 5000) (h0 : 0 ≤ t) (ht : t < 10 ^ 200) : mt T (k + 8) (wyD w) 20 (.ok [.int t]) = .ok (wyD (w.turn t)) := by
  have hE : (10 : Nat) ^ 200 < 10 ^ 250 := Nat.pow_lt_pow_right (by decide) (by decide)
  have hE0 : (0 : Nat) < 10 ^ 200 := Nat.pow_pos (by decide)
  have hN : t.natAbs < 10 ^ 200 := by have : ((10 : Nat) ^ 200 : Nat) = ((10 : Int) ^ 200) := by simp
                                      omega
  have t1 : t.natAbs < 10 ^ 250 := Nat.lt_trans hN hE
  have t2 : (t + 1).natAbs < 10 ^ 250 := by omega
  have d := fun (n : Str) (hn : n.length ≤ 5000) => dottedZ (T := T) (x := x) (k := k + 6) (n := n) (t := t) (by omega) t1
  have d2 := fun (n : Str) (hn : n.length ≤ 5000) => dottedZ (T := T) (x := x) (k := k + 6) (n := n) (t := t + 1) (by omega) t2
  obtain ⟨kd, nm, sr, gl, hi, co⟩ := w
  obtain ⟨h1, h2, h3, h4⟩ := h
  have a1 := d nm l1
  have a2 := d sr l2
  have a3 := d gl l3
  have a4 := d2 gl l3
  have f1 := w_nm (T := T) (x := x) ⟨kd, nm, sr, gl, hi, co⟩
  have f2 := w_sr (T := T) (x := x) ⟨kd, nm, sr, gl, hi, co⟩
  have f3 := w_gl (T := T) (x := x) ⟨kd, nm, sr, gl, hi, co⟩
  have f4 := w_hi (T := T) (x := x) ⟨kd, nm, sr, gl, hi, co⟩
  have f5 := w_co (T := T) (x := x) ⟨kd, nm, sr, gl, hi, co⟩
  cases kd with
  | plain =>
    have m := mk_wyZ (T := T) (x := x) (k := k) (kd := .plain) (nm := dot nm t) (sr := dot sr t) (gl := dot gl t) (hi := hi) (co := co) ⟨⟨fun e => h1.mp (dot_inj e), fun e => absurd e (by decide : ¬ (1 = 4))⟩, h2, h3, h4⟩
    dsimp only at m
    rw [mt_wy (x := x) (g := 19) (inferInstanceAs (Mth T x 1 20 19)) (by omega), cl_eq Q1.eq rfl rfl]
    simp only [p_Way_at_turn]
    simp [f1, f2, f3, f4, f5, a1, a2, a3, m]
    rfl
  | grow r =>
    have m := mk_wyZ (T := T) (x := x) (k := k) (kd := .grow r) (nm := dot nm t) (sr := dot sr t) (gl := dot gl t) (hi := hi) (co := co) ⟨⟨fun e => h1.mp (dot_inj e), fun e => absurd e (by decide : ¬ (2 = 4))⟩, h2, h3, h4⟩
    dsimp only at m
    rw [mt_wy (x := x) (g := 22) (inferInstanceAs (Mth T x 2 20 22)) (by omega), cl_eq Q2.eq rfl rfl]
    simp only [p_Growing_at_turn]
    simp [f1, f2, f3, f4, f5, a1, a2, a3, m, w_rate (x := x)]
    rfl
  | leak l =>
    have m := mk_wyZ (T := T) (x := x) (k := k) (kd := .leak l) (nm := dot nm t) (sr := dot sr t) (gl := dot gl t) (hi := hi) (co := co) ⟨⟨fun e => h1.mp (dot_inj e), fun e => absurd e (by decide : ¬ (3 = 4))⟩, h2, h3, h4⟩
    dsimp only at m
    rw [mt_wy (x := x) (g := 26) (inferInstanceAs (Mth T x 3 20 26)) (by omega), cl_eq Q3.eq rfl rfl]
    simp only [p_Leaking_at_turn]
    simp [f1, f2, f3, f4, f5, a1, a2, a3, m, w_loss (x := x)]
    rfl
  | store l =>
    have e : sr = gl := h1.mpr rfl
    obtain ⟨n, rfl⟩ : ∃ n : Nat, t = n := ⟨t.toNat, by omega⟩
    have m := mk_wyZ (T := T) (x := x) (k := k) (kd := .leak l) (nm := dot nm n) (sr := dot sr n) (gl := dot gl (n + 1)) (hi := hi) (co := co) ⟨⟨fun e2 => by
      rw [e] at e2
      have := dot_injT (s := n) (t := n + 1) e2
      omega, fun e => absurd e (by decide : ¬ (3 = 4))⟩, h2, h3, h4⟩
    dsimp only at m
    rw [mt_wy (x := x) (g := 29) (inferInstanceAs (Mth T x 4 20 29)) (by omega), cl_eq Q4.eq rfl rfl]
    simp only [p_Store_at_turn]
    simp [f1, f2, f3, f4, f5, a1, a2, a4, m, w_lossS (x := x)]
    rfl
end
theorem turn_ok {w : Wy} {t : Nat} (h : WyOk w) : WyOk (w.turn t) := by
  obtain ⟨kd, nm, sr, gl, hi, co⟩ := w
  obtain ⟨h1, h2, h3, h4⟩ := h
  cases kd with
  | plain => exact ⟨⟨fun e => h1.mp (dot_inj e), fun e => absurd e (by decide : ¬ (1 = 4))⟩, h2, h3, h4⟩
  | grow r => exact ⟨⟨fun e => h1.mp (dot_inj e), fun e => absurd e (by decide : ¬ (2 = 4))⟩, h2, h3, h4⟩
  | leak l => exact ⟨⟨fun e => h1.mp (dot_inj e), fun e => absurd e (by decide : ¬ (3 = 4))⟩, h2, h3, h4⟩
  | store l =>
    refine ⟨⟨fun e2 => ?_, fun e => absurd e (by decide : ¬ (3 = 4))⟩, h2, h3, h4⟩
    have e : sr = gl := h1.mpr rfl
    have e2 : dot sr t = dot gl (t + 1) := e2
    rw [e] at e2
    have := dot_injT (s := t) (t := t + 1) e2
    omega
end GS

namespace GS
open PySem PySem.Spec PyProof.Rows L2

/-! # nets -/
structure Nt where
  ps : List (Str × Rat)
  ws : List Wy
def Nt.wd (n : Nt) : List (Str × Wy) := n.ws.map fun w => (w.nm, w)
def netD (n : Nt) : D := .ins .fz 5 [21, 22] [dicZ frZ n.ps, dicZ wyD n.wd]
def Nt.names (n : Nt) : List Str := dkeys n.ps
structure NtOk (n : Nt) : Prop where
  np : n.ps.length ≤ 12
  nw : n.ws.length ≤ 24
  dp : (dkeys n.ps).Nodup
  dw : (n.ws.map Wy.nm).Nodup
  ok : ∀ w ∈ n.ws, WyOk w
  st : ∀ w ∈ n.ws, w.kd.c ≠ 4
  sr : ∀ w ∈ n.ws, w.sr ∈ dkeys n.ps
  gl : ∀ w ∈ n.ws, w.gl ∈ dkeys n.ps
theorem wd_keys (n : Nt) : dkeys n.wd = n.ws.map Wy.nm := by
  unfold dkeys Nt.wd
  rw [List.map_map]; rfl
class NtF (T : TB) (x : Nat → Nat) : Prop where
  ini : T.init 5 = some (x 43)
  ok1 : T.fok 5 21 = true
  ok2 : T.fok 5 22 = true
  sub : T.sub 5 = [5]
  g0 : T.glob 0 = .int 12
  g1 : T.glob 1 = .int 24
theorem fold_snoc {α : Type} : ∀ (l m : List α), l.foldl (fun m p => m ++ [p]) m = m ++ l
  | [], m => by simp
  | a :: l, m => by rw [List.foldl_cons, fold_snoc l]; simp
theorem nodup_mid {α : Type} [DecidableEq α] {pre post : List α} {x : α} (h : (pre ++ x :: post).Nodup) : x ∉ pre := fun hx => (List.nodup_append.mp h).2.2 x hx x (by simp) rfl
section
variable {T : TB} {x : Nat → Nat} {k : Nat}
/-- a pair of a name and a number -/
def pqD (p : Str × Rat) : D := Tp [.str p.1, frZ p.2]
theorem wantsZ [P : Lib T x 35 p_wants_of] {ps : List (Str × Rat)} (nd : (dkeys ps).Nodup) (hl : ps.length ≤ 1000) : cl T (k + 1) (x 35) [L (ps.map pqD)] = .ok (dicZ frZ ps) := by
  rw [cl_eq P.eq rfl rfl]
  simp only [p_wants_of, p_wants_of_c, p_wants_of_c_1]
  rw [zs_cons, zx_set, z_dct, Out.ofRes_ok, Out.bind_nx, zs_cons]
  rw [xfold (xs := ps) pqD (fun m => [some (L (ps.map pqD)), some (dicZ frZ m), none, none]) (fun m p => m ++ [p]) [] ?h0 ?h1 ?h2]
  case h0 => rfl
  case h1 => simp
  case h2 =>
    intro pre p post e
    rw [fold_snoc, List.nil_append]
    have hn : p.1 ∉ dkeys pre := by
      have h2 : (dkeys pre ++ p.1 :: dkeys post).Nodup := by
        have : dkeys ps = dkeys pre ++ p.1 :: dkeys post := by rw [e]; unfold dkeys; simp
        rw [← this]; exact nd
      exact nodup_mid h2
    have hlen : pre.length < 16777216 := by
      have := congrArg List.length e
      simp at this
      omega
    refine ⟨[some (L (ps.map pqD)), some (dicZ frZ pre), some (.str p.1), some (frZ p.2)], by simp [pqD], .inl ?_⟩
    simp [p_wants_of_c_b1, p_wants_of_c_b1_1, hn, put_dic (f := frZ) (m := pre) (k := p.1) (v := p.2) rfl hlen, dput_new hn]
  rw [fold_snoc]
  simp [p_wants_of_c_2]
theorem not_store [G : WyF T x] {w : Wy} (h : w.kd.c ≠ 4) : vIsi T.sub (.cls 4) (wyD w) = .ok false := by
  obtain ⟨kd, nm, sr, gl, hi, co⟩ := w
  have s1 := G.s1
  have s2 := G.s2
  have s3 := G.s3
  cases kd with
  | plain => show Res.guard (!(T.sub 1).isEmpty) (.ok (decide (4 ∈ T.sub 1))) = _; rw [s1]; rfl
  | grow r => show Res.guard (!(T.sub 2).isEmpty) (.ok (decide (4 ∈ T.sub 2))) = _; rw [s2]; rfl
  | leak r => show Res.guard (!(T.sub 3).isEmpty) (.ok (decide (4 ∈ T.sub 3))) = _; rw [s3]; rfl
  | store r => exact absurd rfl h
theorem waysZ [G : WyF T x] [P : Lib T x 36 p_ways_of] {ps : List (Str × Rat)} {ws : List Wy} (nd : (ws.map Wy.nm).Nodup) (hl : ws.length ≤ 1000) (st : ∀ w ∈ ws, w.kd.c ≠ 4) (sr : ∀ w ∈ ws, w.sr ∈ dkeys ps) (gl : ∀ w ∈ ws, w.gl ∈ dkeys ps) :
    cl T (k + 1) (x 36) [dicZ frZ ps, L (ws.map wyD)] = .ok (dicZ wyD (ws.map fun w => (w.nm, w))) := by
  rw [cl_eq P.eq rfl rfl]
  simp only [p_ways_of, p_ways_of_c, p_ways_of_c_1]
  rw [zs_cons, zx_set, z_dct, Out.ofRes_ok, Out.bind_nx, zs_cons]
  rw [xfold (xs := ws) wyD (fun m : List Wy => [some (dicZ frZ ps), some (L (ws.map wyD)), some (dicZ wyD (m.map fun w => (w.nm, w))), none]) (fun m p => m ++ [p]) [] ?h0 ?h1 ?h2]
  case h0 => rfl
  case h1 => simp
  case h2 =>
    intro pre w post e
    rw [fold_snoc, List.nil_append]
    have hw : w ∈ ws := by rw [e]; simp
    have hn : w.nm ∉ dkeys (pre.map fun w => (w.nm, w)) := by
      have h2 : (pre.map Wy.nm ++ w.nm :: post.map Wy.nm).Nodup := by
        have : ws.map Wy.nm = pre.map Wy.nm ++ w.nm :: post.map Wy.nm := by rw [e]; simp
        rw [← this]; exact nd
      have h3 := nodup_mid h2
      unfold dkeys
      rw [List.map_map]
      exact h3
    have hlen : (pre.map fun w => (w.nm, w)).length < 16777216 := by
      have := congrArg List.length e
      simp at this ⊢
      omega
    refine ⟨_, bt_nm, .inl ?_⟩
    simp [p_ways_of_c_b1, p_ways_of_c_b1_1, p_ways_of_c_b1_2, p_ways_of_c_b1_3, p_ways_of_c_b1_4, not_store (T := T) (x := x) (st w hw), w_nm (T := T) (x := x), w_sr (T := T) (x := x), w_gl (T := T) (x := x), hn, sr w hw, gl w hw, put_dic (f := wyD) (v := w) rfl hlen, dput_new hn]
  rw [fold_snoc]
  simp [p_ways_of_c_2]
theorem netZ [F : NtF T x] [G : WyF T x] [P0 : Lib T x 43 p_Net__init] [Lib T x 35 p_wants_of] [Lib T x 36 p_ways_of] {n : Nt} (h : NtOk n) : mkZ T (k + 3) 5 [L (n.ps.map pqD), L (n.ws.map wyD)] = .ok (netD n) := by
  refine mk_nx (df := p_Net__init x) (s' := [some (L (n.ps.map pqD)), some (L (n.ws.map wyD))]) F.ini P0.eq rfl (Nat.le_refl 3) ?_
  have a1 := wantsZ (T := T) (x := x) (k := k) h.dp (by have := h.np; omega)
  have a2 := waysZ (T := T) (x := x) (k := k) h.dw (by have := h.nw; omega) h.st h.sr h.gl
  have c1 : ¬ ((12 : Int) < n.ps.length) := by have := h.np; omega
  have c2 : ¬ ((24 : Int) < n.ws.length) := by have := h.nw; omega
  have f1 : vFld T.fok 21 (.ins .fz 5 [21] [dicZ frZ n.ps]) = .ok (dicZ frZ n.ps) := by
    show Res.guard (T.fok 5 21) _ = _
    rw [F.ok1]; rfl
  show exZs (ZG T (k + 1)) whileV (p_Net__init x).code [some (.ins .fz 5 [] []), some (L (n.ps.map pqD)), some (L (n.ws.map wyD))] = _
  simp [p_Net__init, F.g0, F.g1, c1, c2, a1, fputZ, F.ok1, F.ok2, f1, a2]
  rfl
theorem n_w [F : NtF T x] {n : Nt} : vFld T.fok 21 (netD n) = .ok (dicZ frZ n.ps) := by
  show Res.guard (T.fok 5 21) _ = _
  rw [F.ok1]; rfl
theorem n_y [F : NtF T x] {n : Nt} : vFld T.fok 22 (netD n) = .ok (dicZ wyD n.wd) := by
  show Res.guard (T.fok 5 22) _ = _
  rw [F.ok2]; rfl
theorem namesZ [F : NtF T x] [P : Lib T x 44 p_Net_names] [M : Mth T x 5 23 44] {n : Nt} : mt T (k + 1) (netD n) 23 (.ok []) = .ok (L (n.names.map .str)) := by
  unfold netD
  rw [mt_ins (c := 5) (M := M) (by simp), cl_eq P.eq rfl rfl]
  have := n_w (T := T) (x := x) (n := n)
  unfold netD at this
  simp [p_Net_names, this]
  rfl
theorem wantZ [F : NtF T x] [P : Lib T x 45 p_Net_want] [M : Mth T x 5 24 45] {n : Nt} {p : Str} {q : Rat} (h : dget n.ps p = some q) : mt T (k + 1) (netD n) 24 (.ok [.str p]) = .ok (frZ q) := by
  unfold netD
  rw [mt_ins (c := 5) (M := M) (by simp), cl_eq P.eq rfl rfl]
  have := n_w (T := T) (x := x) (n := n)
  unfold netD at this
  have hm : p ∈ dkeys n.ps := dget_mem.mpr ⟨q, h⟩
  simp [p_Net_want, this, hm, h]
theorem wayOfZ [F : NtF T x] [P : Lib T x 46 p_Net_way] [M : Mth T x 5 25 46] {n : Nt} {p : Str} {w : Wy} (h : dget n.wd p = some w) : mt T (k + 1) (netD n) 25 (.ok [.str p]) = .ok (wyD w) := by
  unfold netD
  rw [mt_ins (c := 5) (M := M) (by simp), cl_eq P.eq rfl rfl]
  have := n_y (T := T) (x := x) (n := n)
  unfold netD at this
  have hm : p ∈ dkeys n.wd := dget_mem.mpr ⟨w, h⟩
  simp [p_Net_way, this, hm, h]
theorem allZ [F : NtF T x] [P : Lib T x 47 p_Net_all_ways] [M : Mth T x 5 26 47] {n : Nt} : mt T (k + 1) (netD n) 26 (.ok []) = .ok (L (n.ws.map wyD)) := by
  unfold netD
  rw [mt_ins (c := 5) (M := M) (by simp), cl_eq P.eq rfl rfl]
  have := n_y (T := T) (x := x) (n := n)
  unfold netD at this
  simp [p_Net_all_ways, this]
  unfold Nt.wd
  rw [List.map_map]; rfl
end
end GS

namespace GS
open PySem PySem.Spec PyProof.Rows L2

/-! # sizes, tops and bottoms apart -/
def sz (m d : Nat) (q : Rat) : Prop := q.num.natAbs < 2 ^ m ∧ q.den ≤ 2 ^ d
theorem num_div_le {a b : Int} (hb : b ≠ 0) : (Rat.divInt a b).num.natAbs ≤ a.natAbs ∧ (Rat.divInt a b).den ≤ b.natAbs := by
  rw [Rat.num_divInt, Rat.den_divInt, if_neg hb]
  refine ⟨?_, Nat.div_le_self _ _⟩
  rw [Int.natAbs_ediv_of_dvd ?_]
  · refine Nat.le_trans (Nat.div_le_self _ _) ?_
    rw [Int.natAbs_mul]
    have : b.sign.natAbs = 1 := by rw [Int.natAbs_sign]; simp [hb]
    rw [this, Nat.one_mul]
    exact Nat.le_refl _
  · exact Int.dvd_mul_of_dvd_right (Int.gcd_dvd_right ..)
theorem sz_div {a b : Int} {m d : Nat} (hb : b ≠ 0) (h1 : a.natAbs < 2 ^ m) (h2 : b.natAbs ≤ 2 ^ d) : sz m d (Rat.divInt a b) :=
  ⟨Nat.lt_of_le_of_lt (num_div_le hb).1 h1, Nat.le_trans (num_div_le hb).2 h2⟩
theorem sz.mono {m d m' d' : Nat} {q : Rat} (h : sz m d q) (hm : m ≤ m') (hd : d ≤ d') : sz m' d' q :=
  ⟨Nat.lt_of_lt_of_le h.1 (Nat.pow_le_pow_right (by omega) hm), Nat.le_trans h.2 (Nat.pow_le_pow_right (by omega) hd)⟩
theorem mul_lt_le {a b n m : Nat} (h1 : a < 2 ^ n) (h2 : b ≤ 2 ^ m) : a * b < 2 ^ (n + m) := by
  rw [Nat.pow_add]
  exact Nat.lt_of_le_of_lt (Nat.mul_le_mul_left a h2) ((Nat.mul_lt_mul_right (Nat.two_pow_pos m)).mpr h1)
theorem mul_le_le {a b n m : Nat} (h1 : a ≤ 2 ^ n) (h2 : b ≤ 2 ^ m) : a * b ≤ 2 ^ (n + m) := by
  rw [Nat.pow_add]
  exact Nat.mul_le_mul h1 h2
theorem sz_pm {p q : Rat} {m1 d1 m2 d2 : Nat} (h1 : sz m1 d1 p) (h2 : sz m2 d2 q) : sz (max (m1 + d2) (m2 + d1) + 1) (d1 + d2) (p + q) ∧ sz (max (m1 + d2) (m2 + d1) + 1) (d1 + d2) (p - q) := by
  have a1 := mul_lt_le h1.1 h2.2
  have a2 := mul_lt_le h2.1 h1.2
  have e3 : 2 ^ (max (m1 + d2) (m2 + d1) + 1) = 2 ^ (max (m1 + d2) (m2 + d1)) + 2 ^ (max (m1 + d2) (m2 + d1)) := by rw [Nat.pow_succ]; omega
  have b1 : 2 ^ (m1 + d2) ≤ 2 ^ max (m1 + d2) (m2 + d1) := Nat.pow_le_pow_right (by omega) (by omega)
  have b2 : 2 ^ (m2 + d1) ≤ 2 ^ max (m1 + d2) (m2 + d1) := Nat.pow_le_pow_right (by omega) (by omega)
  have c1 : (p.num * q.den).natAbs = p.num.natAbs * q.den := by rw [Int.natAbs_mul]; rfl
  have c2 : (q.num * p.den).natAbs = q.num.natAbs * p.den := by rw [Int.natAbs_mul]; rfl
  have c3 : ((p.den : Int) * q.den).natAbs ≤ 2 ^ (d1 + d2) := by
    rw [Int.natAbs_mul]
    exact mul_le_le h1.2 h2.2
  rw [add_div, sub_div']
  exact ⟨sz_div (dd_ne p q) (by omega) c3, sz_div (dd_ne p q) (by omega) c3⟩
theorem sz_add {p q : Rat} {m1 d1 m2 d2 : Nat} (h1 : sz m1 d1 p) (h2 : sz m2 d2 q) : sz (max (m1 + d2) (m2 + d1) + 1) (d1 + d2) (p + q) := (sz_pm h1 h2).1
theorem sz_sub {p q : Rat} {m1 d1 m2 d2 : Nat} (h1 : sz m1 d1 p) (h2 : sz m2 d2 q) : sz (max (m1 + d2) (m2 + d1) + 1) (d1 + d2) (p - q) := (sz_pm h1 h2).2
theorem sz_mul {p q : Rat} {m1 d1 m2 d2 : Nat} (h1 : sz m1 d1 p) (h2 : sz m2 d2 q) : sz (m1 + m2) (d1 + d2) (p * q) := by
  rw [mul_div']
  refine sz_div (dd_ne p q) ?_ ?_
  · rw [Int.natAbs_mul]
    exact pow_mul_lt h1.1 h2.1
  · rw [Int.natAbs_mul]
    exact mul_le_le h1.2 h2.2
theorem sz_zero : sz 0 0 0 := ⟨by decide +kernel, by decide +kernel⟩
theorem sz_one : sz 1 0 1 := ⟨by decide +kernel, by decide +kernel⟩
theorem sz.bs {m d : Nat} {q : Rat} (h : sz m d q) : bs q ≤ m + d + 1 := by
  refine bs_le (Nat.lt_of_lt_of_le h.1 (Nat.pow_le_pow_right (by omega) (by omega))) (Nat.lt_of_le_of_lt h.2 (Nat.pow_lt_pow_right (by omega) (by omega))) (by omega)
/-- what i summands come to -/
def szN (m d i : Nat) (q : Rat) : Prop := sz (m + i * (d + 1)) (i * d) q
theorem szN_zero (m d : Nat) : szN m d 0 0 := sz_zero.mono (by omega) (by omega)
theorem szN_step {m d i : Nat} {p q : Rat} (h : szN m d i p) (h2 : sz m d q) : szN m d (i + 1) (p + q) ∧ szN m d (i + 1) (p - q) := by
  unfold szN at *
  have e1 : (i + 1) * (d + 1) = i * (d + 1) + d + 1 := by rw [Nat.add_mul, Nat.one_mul]; omega
  have e2 : (i + 1) * d = i * d + d := by rw [Nat.add_mul, Nat.one_mul]
  have e3 : i * d ≤ i * (d + 1) := Nat.mul_le_mul_left i (by omega)
  constructor
  · exact (sz_add h h2).mono (by omega) (by omega)
  · exact (sz_sub h h2).mono (by omega) (by omega)
theorem szN.up {m d i j : Nat} {q : Rat} (h : szN m d i q) (hij : i ≤ j) : szN m d j q := sz.mono h (by have := Nat.mul_le_mul_right (d + 1) hij; omega) (Nat.mul_le_mul_right d hij)
theorem szN.bs {m d i : Nat} {q : Rat} (h : szN m d i q) : bs q ≤ m + i * (2 * d + 1) + 1 := by
  have := sz.bs h
  have e : i * (2 * d + 1) = i * (d + 1) + i * d := by rw [← Nat.mul_add]; congr 1; omega
  omega
/-- the ways' names -/
def Nt.wn (n : Nt) : List Str := n.ws.map Wy.nm
theorem zi_dic {α : Type} {T : TB} {k : Nat} {f : α → D} {m : List (Str × α)} {a : Tm} {s : Sl} (h : evZ (ZG T k) a s = .ok (dicZ f m)) : evZI (ZG T k) (.keys a) s = .ok ((dkeys m).map .str) := by
  rw [zi_keys, h, Res.bind_ok, vd_dicZ, Res.bind_ok, seq_keys]
/-! # plans -/
abbrev Pl := List (Str × Rat)
def amt (pl : Pl) (n : Str) : Rat := (dget pl n).getD 0
/-- a dict over given keys -/
def tab {α : Type} (ks : List Str) (v : Str → α) : List (Str × α) := ks.map fun k => (k, v k)
theorem tab_keys {α : Type} (ks : List Str) (v : Str → α) : dkeys (tab ks v) = ks := by
  unfold dkeys tab
  rw [List.map_map]
  exact List.map_id ks
theorem tab_get {α : Type} {v : Str → α} : ∀ {ks : List Str} {k : Str}, k ∈ ks → dget (tab ks v) k = some (v k)
  | a :: ks, k, h => by
    show (if a = k then some (v a) else dget (tab ks v) k) = _
    by_cases e : a = k
    · rw [if_pos e, e]
    · rw [if_neg e]
      rcases List.mem_cons.mp h with h | h
      · exact absurd h.symm e
      · exact tab_get h
theorem tab_put {α : Type} {v : Str → α} {y : α} : ∀ {ks : List Str} {k : Str}, ks.Nodup → k ∈ ks → dput (tab ks v) k y = tab ks (fun j => if j = k then y else v j)
  | a :: ks, k, nd, h => by
    rw [List.nodup_cons] at nd
    show (if a = k then (k, y) :: tab ks v else (a, v a) :: dput (tab ks v) k y) = (a, if a = k then y else v a) :: tab ks (fun j => if j = k then y else v j)
    by_cases e : a = k
    · rw [if_pos e, if_pos e, ← e]
      congr 1
      unfold tab
      refine List.map_congr_left fun b hb => ?_
      have : b ≠ a := fun z => nd.1 (by rw [← z]; exact hb)
      show (b, v b) = (b, if b = a then y else v b)
      rw [if_neg this]
    · rw [if_neg e, if_neg e]
      rcases List.mem_cons.mp h with h | h
      · exact absurd h.symm e
      · rw [tab_put nd.2 h]
section
variable {T : TB} {x : Nat → Nat} {k : Nat}
theorem amountZ [F : Fr T x] [P : Lib T x 30 p_amount] {pl : Pl} {n : Str} : cl T (k + 4) (x 30) [dicZ frZ pl, .str n] = .ok (frZ (amt pl n)) := by
  rw [cl_eq P.eq rfl rfl]
  simp [p_amount, fr_mk1 (T := T) (x := x), zero_div1]
  unfold amt
  cases dget pl n <;> rfl
theorem strangersZ [F : Fr T x] [N : NtF T x] [G : WyF T x] [Lib T x 47 p_Net_all_ways] [Mth T x 5 26 47] [P : Lib T x 70 p_strangers_2] {n : Nt} {pl : List (Str × Rat)} (h1 : n.ws.length ≤ 1000) (h2 : pl.length ≤ 1000) :
    cl T (k + 2) (x 70) [netD n, dicZ frZ pl] = .ok (L (((dkeys pl).filter fun p => decide (p ∉ n.wn)).map .str)) := by
  rw [cl_eq P.eq rfl rfl]
  have all := allZ (T := T) (x := x) (k := k) (n := n)
  have e1 : evZ (ZG T (k + 1)) (.cmpr (.fld (.var 3) 10) (.nm 3) (.seq (.met (.var 0) 26 [])) []) [some (netD n), some (dicZ frZ pl), none, none, none] = .ok (L ((n.wn).map .str)) := by
    rw [z_cmpr]
    simp only [zi_seq, z_met, z_var, sl_0, Res.bind_ok, zl_nil, all, vs_lst]
    rw [comp_map wyD D.str Wy.nm n.ws (fun w hw => ⟨_, bt_nm, by simp, by simp [tgNames, wipeS, w_nm (T := T) (x := x)]⟩), Res.bind_ok, show ((n.ws.map Wy.nm).map D.str).length = n.ws.length by simp, line_le (by omega)]
    rfl
  have hl : (((dkeys pl).filter fun p => decide (p ∉ n.wn))).length ≤ 1000 := Nat.le_trans (List.length_filter_le _ _) (by unfold dkeys; simp; omega)
  have e2 : evZ (ZG T (k + 1)) (.cmpr (.var 4) (.nm 4) (.keys (.var 1)) [.cmp .notin (.var 4) (.var 2)]) [some (netD n), some (dicZ frZ pl), some (L ((n.wn).map .str)), none, none] = .ok (L (((dkeys pl).filter fun p => decide (p ∉ n.wn)).map .str)) := by
    rw [z_cmpr]
    rw [zi_dic (f := frZ) (m := pl) (by simp), Res.bind_ok]
    rw [comp_filt D.str (fun p => decide (p ∉ n.wn)) D.str id (dkeys pl) (fun p hp => ⟨_, bt_nm, by by_cases h : p ∈ n.wn <;> simp [tgNames, wipeS, h], by simp [tgNames, wipeS]⟩), Res.bind_ok, List.map_id, line_le (by rw [List.length_map]; omega)]
    rfl
  simp [p_strangers_2, e1, e2]
/-- all names of a plan are known -/
def Known (n : Nt) (pl : Pl) : Prop := ∀ p ∈ dkeys pl, p ∈ n.wn
theorem known_nil {n : Nt} {pl : Pl} (h : Known n pl) : ((dkeys pl).filter fun p => decide (p ∉ n.wn)) = [] := by
  rw [List.filter_eq_nil_iff]
  intro p hp
  simp [h p hp]
theorem refuseZ [F : Fr T x] [N : NtF T x] [G : WyF T x] [Lib T x 47 p_Net_all_ways] [Mth T x 5 26 47] [Lib T x 70 p_strangers_2] [P : Lib T x 71 p_refuse_strangers_2] {n : Nt} {pl : Pl} (h1 : n.ws.length ≤ 1000) (h2 : pl.length ≤ 1000) (hk : Known n pl) :
    cl T (k + 3) (x 71) [netD n, dicZ frZ pl] = .ok .non := by
  rw [cl_eq P.eq rfl rfl]
  have st := strangersZ (T := T) (x := x) (k := k) h1 h2
  rw [known_nil hk] at st
  simp only [p_refuse_strangers_2, p_refuse_strangers_2_c]
  rw [zs_cons, xfor (ds := []) (by simp [st])]
  simp [p_refuse_strangers_2_c_1, forL]
/-! ### sums -/
/-- one way's goods -/
def sStep (pl : Pl) (v : Str → Rat) (w : Wy) : Str → Rat := fun p =>
  if p = w.gl then (if p = w.sr then v p - amt pl w.nm else v p) + amt pl w.nm * w.kd.gain else if p = w.sr then v p - amt pl w.nm else v p
def sumsF (n : Nt) (pl : Pl) : Str → Rat := n.ws.foldl (sStep pl) fun _ => 0
/-- sizes of a plan in a net -/
structure PlSz (n : Nt) (pl : Pl) (m d : Nat) : Prop where
  a : ∀ w ∈ n.ws, sz m d (amt pl w.nm)
  o : ∀ w ∈ n.ws, sz m d (amt pl w.nm * w.kd.gain)
  le : m + 50 * (2 * d + 1) ≤ 1900
theorem sStep_sz {pl : Pl} {m d i : Nat} {v : Str → Rat} {w : Wy} (h : ∀ p, szN m d (2 * i) (v p)) (ha : sz m d (amt pl w.nm)) (ho : sz m d (amt pl w.nm * w.kd.gain)) (p : Str) : szN m d (2 * (i + 1)) (sStep pl v w p) := by
  have h1 := (szN_step (h p) ha).2
  have h2 := (szN_step h1 ho).1
  have h3 := (szN_step (h p) ho).1
  unfold sStep
  split
  · split
    · exact h2
    · exact h3.up (by omega)
  · split
    · exact h1.up (by omega)
    · exact (h p).up (by omega)
theorem sums_sz {pl : Pl} {m d : Nat} : ∀ (ws : List Wy) (i : Nat) (v : Str → Rat), (∀ p, szN m d (2 * i) (v p)) → (∀ w ∈ ws, sz m d (amt pl w.nm)) → (∀ w ∈ ws, sz m d (amt pl w.nm * w.kd.gain)) → ∀ p, szN m d (2 * (i + ws.length)) (ws.foldl (sStep pl) v p)
  | [], i, v, h, _, _, p => h p
  | w :: ws, i, v, h, ha, ho, p => by
    have := sums_sz ws (i + 1) (sStep pl v w) (sStep_sz h (ha w (by simp)) (ho w (by simp))) (fun u hu => ha u (by simp [hu])) (fun u hu => ho u (by simp [hu])) p
    rw [List.length_cons, show i + (ws.length + 1) = i + 1 + ws.length by omega]
    exact this
theorem dic_tab_len {α : Type} {ks : List Str} {v : Str → α} : (tab ks v).length = ks.length := by unfold tab; rw [List.length_map]
theorem fold_tab0 {v : Rat} : ∀ (ks pre : List Str), (pre ++ ks).Nodup → ks.foldl (fun (m : Pl) p => dput m p v) (tab pre fun _ => v) = tab (pre ++ ks) fun _ => v
  | [], pre, _ => by simp
  | a :: ks, pre, nd => by
    rw [List.foldl_cons]
    have hn : a ∉ dkeys (tab pre fun _ => v) := by rw [tab_keys]; exact nodup_mid nd
    rw [dput_new hn]
    have e : tab pre (fun _ => v) ++ [(a, v)] = tab (pre ++ [a]) fun _ => v := by unfold tab; simp
    rw [e, fold_tab0 ks (pre ++ [a]) (by simpa using nd)]
    simp
theorem own_sumsZ [F : Fr T x] [N : NtF T x] [G : WyF T x] [Lib T x 7 p_Fraction_plus] [Mth T x 0 2 7] [Lib T x 9 p_Fraction_minus] [Lib T x 10 p_Fraction_times] [Mth T x 0 3 9] [Mth T x 0 4 10] [P1 : Lib T x 17 p_Way_gain] [P2 : Lib T x 21 p_Growing_gain] [P3 : Lib T x 24 p_Leaking_gain] [Q1 : Lib T x 18 p_Way_out] [Q2 : Lib T x 25 p_Leaking_out] [Mth T x 1 18 17] [Mth T x 2 18 21] [Mth T x 3 18 24] [Mth T x 4 18 24]
    [Mth T x 1 19 18] [Mth T x 2 19 18] [Mth T x 3 19 25] [Mth T x 4 19 25] [Lib T x 44 p_Net_names] [Mth T x 5 23 44] [Lib T x 47 p_Net_all_ways] [Mth T x 5 26 47] [Lib T x 30 p_amount] [P : Lib T x 32 p_own_sums] {n : Nt} {pl : Pl} {m d : Nat} (h : NtOk n) (z : PlSz n pl m d) :
    cl T (k + 7) (x 32) [netD n, dicZ frZ pl] = .ok (dicZ frZ (tab n.names (sumsF n pl))) := by
  rw [cl_eq P.eq rfl rfl]
  have nd : n.names.Nodup := h.dp
  have hl : n.names.length ≤ 12 := by have := h.np; unfold Nt.names dkeys; rw [List.length_map]; exact this
  have hnm := namesZ (T := T) (x := x) (k := k + 5) (n := n)
  have hal := allZ (T := T) (x := x) (k := k + 5) (n := n)
  simp only [p_own_sums, p_own_sums_c, p_own_sums_c_1]
  rw [zs_cons, zx_set, z_dct, Out.ofRes_ok, Out.bind_nx, zs_cons]
  rw [xfold (xs := n.names) D.str (fun m : Pl => [some (netD n), some (dicZ frZ pl), some (dicZ frZ m), none, none, none]) (fun m p => dput m p 0) [] ?h0 ?h1 ?h2]
  case h0 => rfl
  case h1 => simp [hnm]
  case h2 =>
    intro pre p post e
    have hlen : (pre.foldl (fun (m : Pl) p => dput m p 0) []).length < 16777216 := by
      have e2 := fold_tab0 (v := 0) pre [] (by
        have : n.names = pre ++ (p :: post) := e
        rw [this] at nd
        simpa using (List.nodup_append.mp nd).1)
      simp only [List.nil_append] at e2
      rw [show tab [] (fun _ => (0 : Rat)) = [] from rfl] at e2
      rw [e2, dic_tab_len]
      have := congrArg List.length e
      simp at this
      omega
    refine ⟨_, bt_nm, .inl ?_⟩
    simp [p_own_sums_c_b1, fr_mk1 (T := T) (x := x), zero_div1, put_dic (f := frZ) (k := p) (v := (0 : Rat)) rfl hlen]
  have e3 := fold_tab0 (v := 0) n.names [] (by simpa using nd)
  rw [show tab [] (fun _ => (0 : Rat)) = [] from rfl] at e3
  rw [e3, List.nil_append, Out.bind_nx]
  simp only [p_own_sums_c_2, p_own_sums_c_3]
  rw [zs_cons, zx_kil, Out.bind_nx, zs_cons]
  rw [xfold (xs := n.ws) wyD (fun v : Str → Rat => [some (netD n), some (dicZ frZ pl), some (dicZ frZ (tab n.names v)), none, none, none]) (sStep pl) (fun _ => 0) ?h0 ?h1 ?h2]
  case h0 => rfl
  case h1 => simp [hal]
  case h2 =>
    intro pre w post e
    have hw : w ∈ n.ws := by rw [e]; simp
    have hpre : pre.length ≤ 24 := by have := congrArg List.length e; have := h.nw; simp at *; omega
    have hsz := sums_sz (pl := pl) (m := m) (d := d) pre 0 (fun _ => 0) (fun p => (szN_zero m d).up (by omega)) (fun u hu => z.a u (by rw [e]; simp [hu])) (fun u hu => z.o u (by rw [e]; simp [hu]))
    generalize hv : pre.foldl (sStep pl) (fun _ => 0) = v at hsz ⊢
    have hsz' : ∀ p, szN m d 48 (v p) := fun p => (hsz p).up (by omega)
    have za := z.a w hw
    have zo := z.o w hw
    have zl := z.le
    have sr := h.sr w hw
    have gl := h.gl w hw
    have wk := (h.ok w hw).sm
    have ba := za.bs
    have bo := zo.bs
    have b1 := (hsz' w.sr).bs
    have b2 := (hsz' w.gl).bs
    have out := outZ (T := T) (x := x) (k := k) (w := w) (q := amt pl w.nm) wk (by omega)
    have mi := minusZ (T := T) (x := x) (k := k + 2) (p := v w.sr) (q := amt pl w.nm) (by omega)
    have am := amountZ (T := T) (x := x) (k := k + 2) (pl := pl) (n := w.nm)
    have hl2 : (tab n.names v).length < 16777216 := by rw [dic_tab_len]; omega
    have g1 : dget (tab n.names v) w.sr = some (v w.sr) := tab_get sr
    have p1 := put_dic (f := frZ) (m := tab n.names v) (k := w.sr) (v := v w.sr - amt pl w.nm) rfl hl2
    rw [tab_put nd sr] at p1
    let v1 : Str → Rat := fun j => if j = w.sr then v w.sr - amt pl w.nm else v j
    have g2 : dget (tab n.names v1) w.gl = some (v1 w.gl) := tab_get gl
    have hl3 : (tab n.names v1).length < 16777216 := by rw [dic_tab_len]; omega
    have p2 := put_dic (f := frZ) (m := tab n.names v1) (k := w.gl) (v := v1 w.gl + amt pl w.nm * w.kd.gain) rfl hl3
    rw [tab_put nd gl] at p2
    have hv1 : szN m d 49 (v1 w.gl) := by
      show szN m d 49 (if w.gl = w.sr then v w.sr - amt pl w.nm else v w.gl)
      split
      · exact (szN_step (hsz' w.sr) za).2
      · exact (hsz' w.gl).up (by omega)
    have b3 := hv1.bs
    have pz := plusZ (T := T) (x := x) (k := k + 2) (p := v1 w.gl) (q := amt pl w.nm * w.kd.gain) (by omega)
    have fin_ : (fun j => if j = w.gl then v1 w.gl + amt pl w.nm * w.kd.gain else v1 j) = sStep pl v w := by
      funext j
      unfold sStep
      by_cases hj : j = w.gl
      · subst hj
        rw [if_pos rfl, if_pos rfl]
        have e1 : v1 w.gl = if w.gl = w.sr then v w.gl - amt pl w.nm else v w.gl := by
          show (if w.gl = w.sr then v w.sr - amt pl w.nm else v w.gl) = _
          by_cases hs : w.gl = w.sr
          · rw [if_pos hs, if_pos hs, hs]
          · rw [if_neg hs, if_neg hs]
        rw [e1]
      · rw [if_neg hj, if_neg hj]
        show (if j = w.sr then _ else _) = _
        by_cases hs : j = w.sr
        · rw [if_pos hs, if_pos hs, hs]
        · rw [if_neg hs, if_neg hs]
    rw [fin_] at p2
    refine ⟨_, bt_nm, .inl ?_⟩
    have p1' : putZ (.str w.sr) (frZ (v w.sr - amt pl w.nm)) (dicZ frZ (tab n.names v)) = .ok (dicZ frZ (tab n.names v1)) := p1
    simp [p_own_sums_c_b2, w_nm (T := T) (x := x), w_sr (T := T) (x := x), w_gl (T := T) (x := x), am, g1, mi, p1', g2, out, pz, p2]
  simp [p_own_sums_c_4]
  rfl
end
end GS

namespace GS
open PySem PySem.Spec PyProof.Rows L2

/-! # sums, worth, plans added and scaled -/
section
variable {T : TB} {x : Nat → Nat} {k : Nat}
theorem sumsZ [F : Fr T x] [N : NtF T x] [G : WyF T x] [Lib T x 7 p_Fraction_plus] [Mth T x 0 2 7] [Lib T x 9 p_Fraction_minus] [Lib T x 10 p_Fraction_times] [Mth T x 0 3 9] [Mth T x 0 4 10] [P1 : Lib T x 17 p_Way_gain] [P2 : Lib T x 21 p_Growing_gain] [P3 : Lib T x 24 p_Leaking_gain] [Q1 : Lib T x 18 p_Way_out] [Q2 : Lib T x 25 p_Leaking_out] [Mth T x 1 18 17] [Mth T x 2 18 21] [Mth T x 3 18 24] [Mth T x 4 18 24]
    [Mth T x 1 19 18] [Mth T x 2 19 18] [Mth T x 3 19 25] [Mth T x 4 19 25] [Lib T x 44 p_Net_names] [Mth T x 5 23 44] [Lib T x 47 p_Net_all_ways] [Mth T x 5 26 47] [Lib T x 30 p_amount] [Lib T x 32 p_own_sums] [Lib T x 70 p_strangers_2] [Lib T x 71 p_refuse_strangers_2] [P : Lib T x 72 p_sums_2] {n : Nt} {pl : Pl} {m d : Nat} (h : NtOk n) (z : PlSz n pl m d) (hk : Known n pl) (h2 : pl.length ≤ 1000) :
    cl T (k + 8) (x 72) [netD n, dicZ frZ pl] = .ok (dicZ frZ (tab n.names (sumsF n pl))) := by
  rw [cl_eq P.eq rfl rfl]
  have e1 := refuseZ (T := T) (x := x) (k := k + 4) (n := n) (pl := pl) (by have := h.nw; omega) h2 hk
  have e2 := own_sumsZ (T := T) (x := x) (k := k) h z
  simp [p_sums_2, e1, e2]
theorem sum_szN {m d : Nat} : ∀ (qs : List Rat) (i : Nat) (p : Rat), szN m d i p → (∀ q ∈ qs, sz m d q) → szN m d (i + qs.length) (qs.foldl (· + ·) p)
  | [], i, p, h, _ => h
  | q :: qs, i, p, h, hq => by
    have := sum_szN qs (i + 1) (p + q) (szN_step h (hq q (by simp))).1 fun u hu => hq u (by simp [hu])
    rw [List.length_cons, show i + (qs.length + 1) = i + 1 + qs.length by omega]
    exact this
theorem total2Z [F : Fr T x] [P : Lib T x 7 p_Fraction_plus] [M : Mth T x 0 2 7] [Q : Lib T x 3 p_total] {m d : Nat} (qs : List Rat) (h : ∀ q ∈ qs, sz m d q) (hl : qs.length ≤ 49) (zl : m + 50 * (2 * d + 1) ≤ 1900) : cl T (k + 5) (x 3) [L (qs.map frZ)] = .ok (frZ (qs.foldl (· + ·) 0)) := by
  rw [cl_eq Q.eq rfl rfl]
  simp [p_total, p_total_c, p_total_c_1, fr_mk1 (T := T) (x := x), zero_div1]
  rw [xfold (xs := qs) frZ (fun q => [some (L (qs.map frZ)), some (frZ q), none]) (· + ·) 0 rfl ?h1 ?h2]
  case h1 => simp
  case h2 =>
    intro pre y post e
    refine ⟨_, bt_nm, .inl ?_⟩
    have h0 := sum_szN pre 0 0 (szN_zero m d) fun u hu => h u (by rw [e]; simp [hu])
    have hp : pre.length ≤ 48 := by have := congrArg List.length e; simp at this; omega
    have hb := (h0.up (j := 48) (by omega)).bs
    have hy := (h y (by rw [e]; simp)).bs
    simp [plusZ (T := T) (x := x) (p := pre.foldl (· + ·) 0) (q := y) (k := k) (by omega), p_total_c_b1]
  simp [p_total_c_2]
def worthF (n : Nt) (pl : Pl) : Rat := (n.ws.map fun w => amt pl w.nm * w.co).foldl (· + ·) 0
theorem worthZ [F : Fr T x] [N : NtF T x] [G : WyF T x] [Lib T x 7 p_Fraction_plus] [Mth T x 0 2 7] [Lib T x 10 p_Fraction_times] [Mth T x 0 4 10] [Lib T x 3 p_total] [Lib T x 47 p_Net_all_ways] [Mth T x 5 26 47] [Lib T x 30 p_amount] [Lib T x 70 p_strangers_2] [Lib T x 71 p_refuse_strangers_2] [P : Lib T x 73 p_worth_2] {n : Nt} {pl : Pl} {m d : Nat} (h : NtOk n) (hk : Known n pl) (h2 : pl.length ≤ 1000)
    (z1 : ∀ w ∈ n.ws, bs (amt pl w.nm) + bs w.co ≤ 7000) (z2 : ∀ w ∈ n.ws, sz m d (amt pl w.nm * w.co)) (zl : m + 50 * (2 * d + 1) ≤ 1900) : cl T (k + 6) (x 73) [netD n, dicZ frZ pl] = .ok (frZ (worthF n pl)) := by
  rw [cl_eq P.eq rfl rfl]
  have hw := h.nw
  have e1 := refuseZ (T := T) (x := x) (k := k + 2) (n := n) (pl := pl) (by omega) h2 hk
  have hal := allZ (T := T) (x := x) (k := k + 4) (n := n)
  have e2 : evZ (ZG T (k + 5)) (.cmpr (.met (.cal (x 30) [.var 1, .fld (.var 2) 10]) 4 [.fld (.var 2) 14]) (.nm 2) (.seq (.met (.var 0) 26 [])) []) [some (netD n), some (dicZ frZ pl), none] = .ok (L ((n.ws.map fun w => amt pl w.nm * w.co).map frZ)) := by
    rw [z_cmpr]
    simp only [zi_seq, z_met, z_var, sl_0, Res.bind_ok, zl_nil, hal, vs_lst]
    rw [comp_map wyD frZ (fun w => amt pl w.nm * w.co) n.ws (fun w hw => ⟨_, bt_nm, by simp, by
      have am := amountZ (T := T) (x := x) (k := k + 1) (pl := pl) (n := w.nm)
      have tm := timesZ (T := T) (x := x) (k := k + 1) (p := amt pl w.nm) (q := w.co) (z1 w hw)
      simp [tgNames, wipeS, w_nm (T := T) (x := x), w_co (T := T) (x := x), am, tm]⟩), Res.bind_ok, show (((n.ws.map fun w => amt pl w.nm * w.co)).map frZ).length = n.ws.length by simp, line_le (by omega)]
    rfl
  have e3 := total2Z (T := T) (x := x) (k := k) (m := m) (d := d) (n.ws.map fun w => amt pl w.nm * w.co) (fun q hq => by
    obtain ⟨w, hw, rfl⟩ := List.mem_map.mp hq
    exact z2 w hw) (by simp; omega) zl
  unfold worthF
  generalize n.ws.map (fun w => amt pl w.nm * w.co) = qs at e2 e3 ⊢
  simp [p_worth_2, e1, e2, e3]
/-! ### two plans -/
def togS (a b : Pl) (m : Pl) (p : Str) : Pl := if amt a p + amt b p = 0 then m else dput m p (amt a p + amt b p)
def togF (a b : Pl) : Pl := (dkeys a ++ dkeys b).foldl (togS a b) []
theorem togS_len {a b m : Pl} {p : Str} : (togS a b m p).length ≤ m.length + 1 := by
  unfold togS
  split
  · omega
  · exact put_len _ _ _
def sclS (c : Rat) (m : Pl) (p : Str × Rat) : Pl := if p.2 * c = 0 then m else dput m p.1 (p.2 * c)
theorem sclS_len {c : Rat} {m : Pl} {p : Str × Rat} : (sclS c m p).length ≤ m.length + 1 := by
  unfold sclS
  split
  · omega
  · exact put_len _ _ _
theorem foldl_len {α : Type} (f : Pl → α → Pl) (h : ∀ m p, (f m p).length ≤ m.length + 1) : ∀ (l : List α) (m : Pl), (l.foldl f m).length ≤ m.length + l.length
  | [], m => by simp
  | a :: l, m => by
    have := foldl_len f h l (f m a)
    have := h m a
    rw [List.foldl_cons, List.length_cons]
    omega
theorem sgn_ne {q : Rat} : sgn q ≠ 0 ↔ q ≠ 0 := by
  unfold sgn
  by_cases h1 : 0 < q
  · rw [if_pos h1]
    exact ⟨fun _ e => by rw [e] at h1; exact absurd h1 (by decide +kernel), fun _ => by decide⟩
  · rw [if_neg h1]
    by_cases h2 : q < 0
    · rw [if_pos h2]
      exact ⟨fun _ e => by rw [e] at h2; exact absurd h2 (by decide +kernel), fun _ => by decide⟩
    · rw [if_neg h2]
      refine ⟨fun h => absurd rfl h, fun h => absurd (Rat.le_antisymm (Rat.not_lt.mp h1) (Rat.not_lt.mp h2)) h⟩
theorem togetherZ [F : Fr T x] [Lib T x 7 p_Fraction_plus] [Mth T x 0 2 7] [Lib T x 14 p_Fraction_sign] [Mth T x 0 8 14] [Lib T x 30 p_amount] [P : Lib T x 49 p_together] {a b : Pl} (ha : a.length ≤ 1000) (hb : b.length ≤ 1000) (z : ∀ p, bs (amt a p) + bs (amt b p) ≤ 7000) :
    cl T (k + 5) (x 49) [dicZ frZ a, dicZ frZ b] = .ok (dicZ frZ (togF a b)) := by
  rw [cl_eq P.eq rfl rfl]
  have la : (dkeys a).length ≤ 1000 := by unfold dkeys; rw [List.length_map]; exact ha
  have lb : (dkeys b).length ≤ 1000 := by unfold dkeys; rw [List.length_map]; exact hb
  simp only [p_together, p_together_c, p_together_c_1]
  rw [zs_cons, zx_set, z_dct, Out.ofRes_ok, Out.bind_nx, zs_cons]
  rw [xfold (xs := dkeys a ++ dkeys b) D.str (fun m : Pl => [some (dicZ frZ a), some (dicZ frZ b), some (dicZ frZ m), none, none]) (togS a b) [] ?h0 ?h1 ?h2]
  case h0 => rfl
  case h1 => simp [line_le (n := (dkeys a).length + (dkeys b).length) (by omega)]
  case h2 =>
    intro pre p post e
    have hl : (pre.foldl (togS a b) []).length < 16777216 := by
      have h1 := foldl_len (togS a b) (fun m p => togS_len) pre []
      have := congrArg List.length e
      simp at this h1 ⊢
      omega
    generalize pre.foldl (togS a b) [] = m at hl ⊢
    refine ⟨_, bt_nm, .inl ?_⟩
    have am1 := amountZ (T := T) (x := x) (k := k) (pl := a) (n := p)
    have am2 := amountZ (T := T) (x := x) (k := k) (pl := b) (n := p)
    have pz := plusZ (T := T) (x := x) (k := k) (p := amt a p) (q := amt b p) (z p)
    unfold togS
    generalize amt a p + amt b p = r at pz ⊢
    have sg := signZ (T := T) (x := x) (k := k + 3) (p := r)
    have pt := put_dic (f := frZ) (k := p) (v := r) rfl hl
    by_cases h0 : r = 0
    · have s0 : sgn r = 0 := by rw [h0]; decide +kernel
      rw [if_pos h0]
      simp [p_together_c_b1, p_together_c_b1_1, p_together_c_b1_2, am1, am2, pz, sg, s0]
    · have s0 : sgn r ≠ 0 := sgn_ne.mpr h0
      rw [if_neg h0]
      simp [p_together_c_b1, p_together_c_b1_1, p_together_c_b1_2, am1, am2, pz, sg, s0, pt]
  show fin ((Out.nx [some (dicZ frZ a), some (dicZ frZ b), some (dicZ frZ (togF a b)), none, none]).bind _) = _
  simp [p_together_c_2]
def sclF (a : Pl) (c : Rat) : Pl := a.foldl (sclS c) []
theorem items_dic {m : Pl} {a : Tm} {s : Sl} (h : evZ (ZG T k) a s = .ok (dicZ frZ m)) : evZI (ZG T k) (.items a) s = .ok (m.map pqD) := by
  rw [zi_items, h, Res.bind_ok, vd_dicZ, Res.bind_ok]
  show Res.ok (pairsZ ((m.map fun p => (Sum.inr p.1 : Key)).map keyD) (m.map fun p => frZ p.2)) = _
  rw [seq_keys]
  congr 1
  clear h
  unfold dkeys
  rw [List.map_map]
  induction m with
  | nil => rfl
  | cons p m ih =>
    show Tp [.str p.1, frZ p.2] :: pairsZ _ _ = pqD p :: m.map pqD
    rw [ih]
    rfl
theorem scaledZ [F : Fr T x] [Lib T x 10 p_Fraction_times] [Mth T x 0 4 10] [Lib T x 14 p_Fraction_sign] [Mth T x 0 8 14] [P : Lib T x 50 p_scaled] {a : Pl} {c : Rat} (ha : a.length ≤ 1000) (z : ∀ p ∈ a, bs p.2 + bs c ≤ 7000) :
    cl T (k + 5) (x 50) [dicZ frZ a, frZ c] = .ok (dicZ frZ (sclF a c)) := by
  rw [cl_eq P.eq rfl rfl]
  simp only [p_scaled, p_scaled_c, p_scaled_c_1]
  rw [zs_cons, zx_set, z_dct, Out.ofRes_ok, Out.bind_nx, zs_cons]
  rw [xfold (xs := a) pqD (fun m : Pl => [some (dicZ frZ a), some (frZ c), some (dicZ frZ m), none, none]) (sclS c) [] ?h0 ?h1 ?h2]
  case h0 => rfl
  case h1 => exact items_dic rfl
  case h2 =>
    intro pre p post e
    have hl : (pre.foldl (sclS c) []).length < 16777216 := by
      have h1 := foldl_len (sclS c) (fun m p => sclS_len) pre []
      have := congrArg List.length e
      simp at this h1 ⊢
      omega
    generalize pre.foldl (sclS c) [] = m at hl ⊢
    refine ⟨_, by simp [pqD]; rfl, .inl ?_⟩
    have tz := timesZ (T := T) (x := x) (k := k) (p := p.2) (q := c) (z p (by rw [e]; simp))
    unfold sclS
    generalize p.2 * c = r at tz ⊢
    have sg := signZ (T := T) (x := x) (k := k + 3) (p := r)
    have pt := put_dic (f := frZ) (k := p.1) (v := r) rfl hl
    by_cases h0 : r = 0
    · have s0 : sgn r = 0 := by rw [h0]; decide +kernel
      rw [if_pos h0]
      simp [p_scaled_c_b1, p_scaled_c_b1_1, tz, sg, s0]
    · have s0 : sgn r ≠ 0 := sgn_ne.mpr h0
      rw [if_neg h0]
      simp [p_scaled_c_b1, p_scaled_c_b1_1, tz, sg, s0, pt]
  show fin ((Out.nx [some (dicZ frZ a), some (frZ c), some (dicZ frZ (sclF a c)), none, none]).bind _) = _
  simp [p_scaled_c_2]
end
end GS

namespace GS
open PySem PySem.Spec PyProof.Rows L2

/-! # pairs of whole numbers -/
theorem mulOk_B {i j : Int} {a b : Nat} (h1 : i.natAbs < 2 ^ a) (h2 : j.natAbs < 2 ^ b) (h : a + b ≤ 2000000) : mulOk i j = true := by
  have e1 := bits_lt h1
  have e2 := bits_lt h2
  unfold mulOk Builtin.Int.intTooBig
  have : decide (((Builtin.Int.intBits i : Nat) : Int) + ((Builtin.Int.intBits j : Nat) : Int) > ((bitsLine : Nat) : Int)) = false := by
    apply decide_eq_false
    unfold bitsLine
    omega
  rw [this, Bool.and_false]
  rfl
abbrev IP := Int × Int
def prD (p : IP) : D := Tp [.int p.1, .int p.2]
def prO : Option IP → D
  | none => .non
  | some p => prD p
def qf (p : IP) : Rat := Rat.divInt p.1 p.2
def pplus (p q : IP) : IP := (p.1 * q.2 + q.1 * p.2, p.2 * q.2)
def ptimes (p q : IP) : IP := (p.1 * q.1, p.2 * q.2)
/-- of a size -/
structure Psz (m : Nat) (p : IP) : Prop where
  n : p.1.natAbs < 2 ^ m
  d : p.2.natAbs < 2 ^ m
  z : p.2 ≠ 0
theorem Psz.mono {m m' : Nat} {p : IP} (h : Psz m p) (hm : m ≤ m') : Psz m' p := ⟨Nat.lt_of_lt_of_le h.n (Nat.pow_le_pow_right (by omega) hm), Nat.lt_of_lt_of_le h.d (Nat.pow_le_pow_right (by omega) hm), h.z⟩
theorem Psz.plus {m1 m2 : Nat} {p q : IP} (h1 : Psz m1 p) (h2 : Psz m2 q) : Psz (m1 + m2 + 1) (pplus p q) :=
  ⟨(pm_lt h1.n h2.d h2.n h1.d).1, Nat.lt_of_lt_of_le (nat_mul_lt h1.d h2.d) (Nat.pow_le_pow_right (by omega) (by omega)), Int.mul_ne_zero h1.z h2.z⟩
theorem Psz.times {m1 m2 : Nat} {p q : IP} (h1 : Psz m1 p) (h2 : Psz m2 q) : Psz (m1 + m2) (ptimes p q) := ⟨nat_mul_lt h1.n h2.n, nat_mul_lt h1.d h2.d, Int.mul_ne_zero h1.z h2.z⟩
theorem qf_plus {p q : IP} (h1 : p.2 ≠ 0) (h2 : q.2 ≠ 0) : qf (pplus p q) = qf p + qf q := (Rat.divInt_add_divInt _ _ h1 h2).symm
theorem qf_times (p q : IP) : qf (ptimes p q) = qf p * qf q := (Rat.divInt_mul_divInt _ _).symm
theorem qf_neg (p : IP) : qf (0 - p.1, p.2) = - qf p := by
  unfold qf
  rw [Rat.neg_divInt] <;> simp
theorem Psz.neg {m : Nat} {p : IP} (h : Psz m p) : Psz m (0 - p.1, p.2) := ⟨by have := h.n; simp; exact this, h.d, h.z⟩
theorem qf_eq {p q : IP} (h1 : p.2 ≠ 0) (h2 : q.2 ≠ 0) : qf p = qf q ↔ p.1 * q.2 = q.1 * p.2 := Rat.divInt_eq_divInt_iff h1 h2
theorem Psz.bs {m : Nat} {p : IP} (h : Psz m p) : bs (qf p) ≤ m := bs_of h.z h.n h.d
theorem Psz.sz {m d : Nat} {p : IP} (h : p.1.natAbs < 2 ^ m) (h2 : p.2.natAbs ≤ 2 ^ d) (z : p.2 ≠ 0) : sz m d (qf p) := sz_div z h h2
@[simp] theorem ix_pr0 (p : IP) : vIx (prD p) (.int 0) = .ok (.int p.1) := by simp [prD]
@[simp] theorem ix_pr1 (p : IP) : vIx (prD p) (.int 1) = .ok (.int p.2) := by simp [prD]
@[simp] theorem isN_pr (p : IP) : vCop .isN (prD p) .non = .ok false := rfl
@[simp] theorem notN_pr (p : IP) : vCop .notN (prD p) .non = .ok true := rfl
@[simp] theorem isN_prO (h : Option IP) : vCop .isN (prO h) .non = .ok (decide (h = none)) := by cases h <;> rfl
@[simp] theorem notN_prO (h : Option IP) : vCop .notN (prO h) .non = .ok (decide (h ≠ none)) := by cases h <;> rfl
section
variable {T : TB} {x : Nat → Nat} {k : Nat}
theorem lplusZ [P : Lib T x 38 p_law_plus] {p q : IP} {m1 m2 : Nat} (h1 : Psz m1 p) (h2 : Psz m2 q) (h : m1 + m2 ≤ 1000000) : cl T (k + 1) (x 38) [prD p, prD q] = .ok (prD (pplus p q)) := by
  rw [cl_eq P.eq rfl rfl]
  have a1 := mulOk_B h1.n h2.d (by omega)
  have a2 := mulOk_B h2.n h1.d (by omega)
  have a3 := mulOk_B h1.d h2.d (by omega)
  simp [p_law_plus, a1, a2, a3, line_le]
  rfl
theorem ltimesZ [P : Lib T x 39 p_law_times] {p q : IP} {m1 m2 : Nat} (h1 : Psz m1 p) (h2 : Psz m2 q) (h : m1 + m2 ≤ 1000000) : cl T (k + 1) (x 39) [prD p, prD q] = .ok (prD (ptimes p q)) := by
  rw [cl_eq P.eq rfl rfl]
  have a1 := mulOk_B h1.n h2.n (by omega)
  have a3 := mulOk_B h1.d h2.d (by omega)
  simp [p_law_times, a1, a3, line_le]
  rfl
/-! ## numbers as they stand, or mixed -/
def mixF (ns : List Int) (j : Nat) : Int := if 0 < ns.length ∧ ns.getD 0 0 % 2 = 1 then ns.getD (j % ns.length) 0 else (ns.getD j 0 + 7 * j * j + 11) * 48271 % 2147483647 * 69621 % 1000000007
theorem mixZ [Lib T x 1 p_law_cell_at] [P : Lib T x 37 p_law_mix] {ns : List Int} {j : Nat} (hj : j ≤ 1000) : cl T (k + 2) (x 37) [scrZ ns, .int j] = .ok (.int (mixF ns j)) := by
  rw [cl_eq P.eq rfl rfl]
  have m1 : mulOk 7 (j : Int) = true := mulOk_ls (by omega) (by omega)
  have m2 : mulOk (7 * (j : Int)) (j : Int) = true := mulOk_rs (by omega) (by omega)
  cases ns with
  | nil =>
    have e : cl T (k + 1) (x 1) [L [], D.int j] = .ok (.int 0) := cell_runZ (T := T) (x := x) (k := k) [] j
    simp [p_law_mix, scrZ, e, m1, m2, mixF]
  | cons a l =>
    have e : cl T (k + 1) (x 1) [L (D.int a :: l.map D.int), D.int j] = .ok (.int ((a :: l).getD j 0)) := cell_runZ (T := T) (x := x) (k := k) (a :: l) j
    have hl : (0 : Int) < (l.length : Int) + 1 := by omega
    by_cases h : a % 2 = 1
    · have h3 : (j : Int) % ((l.length : Int) + 1) = ((j % (l.length + 1) : Nat) : Int) := by
        have := Int.natCast_emod j (l.length + 1)
        rw [this]; rfl
      have h4 : j % (l.length + 1) < l.length + 1 := Nat.mod_lt _ (by omega)
      have h5 : atI (D.int a :: l.map D.int) ((j : Int) % ((l.length : Int) + 1)) = some (.int ((a :: l).getD (j % (l.length + 1)) 0)) := by
        rw [h3, at_nat]
        have : (D.int a :: l.map D.int) = (a :: l).map D.int := rfl
        rw [this, List.getElem?_map, List.getElem?_eq_getElem (by simpa using h4)]
        simp [List.getD_eq_getElem?_getD, List.getElem?_eq_getElem (show j % (l.length + 1) < (a :: l).length by simpa using h4)]
      have e2 : mixF (a :: l) j = (a :: l).getD (j % (l.length + 1)) 0 := by
        unfold mixF
        rw [if_pos ⟨by simp, by simpa using h⟩]
        rfl
      rw [e2]
      generalize (a :: l).getD (j % (l.length + 1)) 0 = r at h5
      simp [p_law_mix, scrZ, h, hl, h5]
    · unfold mixF
      rw [if_neg (fun z => h (by simpa using z.2))]
      simp [p_law_mix, scrZ, h, hl, e, m1, m2]
end
end GS

namespace GS
open PySem PySem.Spec PyProof.Rows L2

/-! # the laws' rows -/
structure Row where
  k : Int
  s : Int
  g : Int
  gn : IP
  pt : Option IP
  hi : Option IP
  co : IP
def rowD (r : Row) : D := Tp [.int r.k, .int r.s, .int r.g, prD r.gn, prO r.pt, prO r.hi, prD r.co]
def byF (mode c : Int) : IP := if c % 4 = 1 then (1, 9) else if c % 4 = 2 then (if mode < 2 then (1, 9) else (-1, 9)) else (0, 1)
def hiF (pt : Option IP) (mode c : Int) : Option IP := if c % 5 = 0 then none else if (pplus (pt.getD (0, 1)) (byF mode c)).1 < 0 then some (0, 1) else some (pplus (pt.getD (0, 1)) (byF mode c))
def moreF (c : Int) : Int := c * 16807 % 998244353
def ptF (c mode far : Int) : Option IP := if moreF c / 138 % 6 = 0 then none else some (if mode < 2 then (((moreF c % 23 - 8) * far).natAbs, 1 + moreF c / 23 % 6) else ((moreF c % 23 - 8) * far, 1 + moreF c / 23 % 6))
def gnF (c : Int) : IP := if c / 10710 % 3 = 1 then (1 + c / 170 % 9, 1 + c / 1530 % 7) else if c / 10710 % 3 = 2 then (1 + c / 170 % 9, 10) else (1, 1)
def rowF (c n mode far : Int) : Row := ⟨c / 10710 % 3, c % n, (c % n + 1 + c / 14 % (n - 1)) % n, gnF c, ptF c mode far, hiF (ptF c mode far) mode (moreF c / 828), (moreF c / 16560 % 15 - 7, 1 + moreF c / 248400 % 4)⟩
theorem pt_sz {c mode far : Int} {m : Nat} (hf : far.natAbs < 2 ^ m) (h3 : 3 ≤ m) {p : IP} (h : ptF c mode far = some p) : p.1.natAbs < 2 ^ (5 + m) ∧ 1 ≤ p.2 ∧ p.2 ≤ 6 := by
  unfold ptF at h
  have h0 : ((moreF c % 23 - 8) * far).natAbs < 2 ^ (5 + m) := nat_mul_lt (n := 5) (by omega) hf
  split at h
  · cases h
  · split at h
    · cases h
      dsimp only
      refine ⟨?_, ?_, ?_⟩ <;> omega
    · cases h
      dsimp only
      refine ⟨?_, ?_, ?_⟩ <;> omega
theorem Psz.of {p : IP} {m : Nat} (h1 : p.1.natAbs < 2 ^ m) (h2 : p.2.natAbs < 2 ^ m) (h3 : p.2 ≠ 0) : Psz m p := ⟨h1, h2, h3⟩
theorem lt_pow {a m : Nat} (h : a < 8) (hm : 3 ≤ m) : a < 2 ^ m := Nat.lt_of_lt_of_le h (show 2 ^ 3 ≤ 2 ^ m from Nat.pow_le_pow_right (by omega) hm)
theorem pt_psz {c mode far : Int} {m : Nat} (hf : far.natAbs < 2 ^ m) (h3 : 3 ≤ m) {p : IP} (h : ptF c mode far = some p) : Psz (5 + m) p := by
  obtain ⟨h1, h2, h4⟩ := pt_sz hf h3 h
  exact ⟨h1, lt_pow (by omega) (by omega), by omega⟩
theorem by_psz (mode c : Int) : Psz 4 (byF mode c) ∧ 1 ≤ (byF mode c).2 ∧ (byF mode c).2 ≤ 9 := by
  unfold byF
  split
  · exact ⟨⟨by decide, by decide, by decide⟩, by decide, by decide⟩
  · split
    · split
      · exact ⟨⟨by decide, by decide, by decide⟩, by decide, by decide⟩
      · exact ⟨⟨by decide, by decide, by decide⟩, by decide, by decide⟩
    · exact ⟨⟨by decide, by decide, by decide⟩, by decide, by decide⟩
theorem getD_psz {c mode far : Int} {m : Nat} (hf : far.natAbs < 2 ^ m) (h3 : 3 ≤ m) : Psz (5 + m) ((ptF c mode far).getD (0, 1)) ∧ 1 ≤ ((ptF c mode far).getD (0, 1)).2 ∧ ((ptF c mode far).getD (0, 1)).2 ≤ 6 := by
  cases h : ptF c mode far with
  | none => exact ⟨⟨lt_pow (by decide) (by omega), lt_pow (by decide) (by omega), by decide⟩, by decide, by decide⟩
  | some p => exact ⟨pt_psz hf h3 h, (pt_sz hf h3 h).2⟩
theorem hi_ok {c mode far cc : Int} {m : Nat} (hf : far.natAbs < 2 ^ m) (h3 : 3 ≤ m) {p : IP} (h : hiF (ptF c mode far) mode cc = some p) : Psz (10 + m) p ∧ 0 ≤ p.1 ∧ 1 ≤ p.2 := by
  obtain ⟨a1, a2, a3⟩ := getD_psz (c := c) (mode := mode) hf h3
  obtain ⟨b1, b2, b3⟩ := by_psz mode cc
  have s := a1.plus b1
  unfold hiF at h
  split at h
  · cases h
  · split at h
    · cases h
      exact ⟨⟨lt_pow (by decide) (by omega), lt_pow (by decide) (by omega), by decide⟩, by decide, by decide⟩
    · next h0 =>
      cases h
      refine ⟨s.mono (by omega), by omega, ?_⟩
      show 1 ≤ _ * _
      have := Int.mul_pos (show 0 < ((ptF c mode far).getD (0, 1)).2 by omega) (show 0 < (byF mode cc).2 by omega)
      omega
section
variable {T : TB} {x : Nat → Nat} {k : Nat}
theorem by_eval {mode c : Int} : vIx (L [Tp [.int 0, .int 1], Tp [.int 1, .int 9], Tp [.int (-1), .int 9], Tp [.int 0, .int 1]]) (.int (c % 4)) = .ok (prD (if c % 4 = 1 then (1, 9) else if c % 4 = 2 then (-1, 9) else (0, 1))) := by
  have h : c % 4 = 0 ∨ c % 4 = 1 ∨ c % 4 = 2 ∨ c % 4 = 3 := by omega
  rcases h with h | h | h | h <;> rw [h] <;> rfl
theorem lhighZ [Lib T x 38 p_law_plus] [P : Lib T x 40 p_law_high] {c0 far mode c : Int} {m : Nat} (hf : far.natAbs < 2 ^ m) (h3 : 3 ≤ m) (hm : m ≤ 1000) : cl T (k + 2) (x 40) [prO (ptF c0 mode far), .int mode, .int c] = .ok (prO (hiF (ptF c0 mode far) mode c)) := by
  rw [cl_eq P.eq rfl rfl]
  obtain ⟨a1, a2, a3⟩ := getD_psz (c := c0) (mode := mode) hf h3
  obtain ⟨b1, b2, b3⟩ := by_psz mode c
  have pz := lplusZ (T := T) (x := x) (k := k) a1 b1 (by omega)
  have e1 : exZ (ZG T (k + 1)) whileV (.ite (.cmp .isN (.var 0) (.cst .non)) [.set 0 (.tup [.cst (.int 0), .cst (.int 1)])] []) [some (prO (ptF c0 mode far)), some (.int mode), some (.int c), none, none] = .nx [some (prD ((ptF c0 mode far).getD (0, 1))), some (.int mode), some (.int c), none, none] := by
    cases h : ptF c0 mode far with
    | none => simp [line_le, prO, prD]
    | some p => simp [prO]
  unfold hiF
  generalize (ptF c0 mode far).getD (0, 1) = q at *
  have e4 : ∀ o, exZs (ZG T (k + 1)) whileV (p_law_high_c_4 x) [some (prD q), some (.int mode), some (.int c), some (prD (byF mode c)), o] = .rt (prD (if (pplus q (byF mode c)).1 < 0 then (0, 1) else pplus q (byF mode c))) [some (prD q), some (.int mode), some (.int c), some (prD (byF mode c)), some (prD (pplus q (byF mode c)))] := by
    intro o
    by_cases h : (pplus q (byF mode c)).1 < 0
    · simp [p_law_high_c_4, p_law_high_c_5, pz, h, line_le]
      rfl
    · simp [p_law_high_c_4, p_law_high_c_5, p_law_high_c_6, pz, h]
  simp only [p_law_high, p_law_high_c]
  rw [zs_cons]
  show fin ((exZ (ZG T (k + 1)) whileV _ [some (prO (ptF c0 mode far)), some (.int mode), some (.int c), none, none]).bind _) = _
  rw [e1, Out.bind_nx]
  by_cases h5 : c % 5 = 0
  · simp [p_law_high_c_1, h5]
    rfl
  · rw [if_neg h5]
    have be := by_eval (mode := mode) (c := c)
    have e3 : exZs (ZG T (k + 1)) whileV (p_law_high_c_3 x) [some (prD q), some (.int mode), some (.int c), some (prD (if c % 4 = 1 then (1, 9) else if c % 4 = 2 then (-1, 9) else (0, 1))), none] = .rt (prD (if (pplus q (byF mode c)).1 < 0 then (0, 1) else pplus q (byF mode c))) [some (prD q), some (.int mode), some (.int c), some (prD (byF mode c)), some (prD (pplus q (byF mode c)))] := by
      rw [← e4 none]
      unfold byF p_law_high_c_3
      by_cases hm2 : mode < 2
      · have h : c % 4 = 1 ∨ c % 4 = 2 ∨ (¬ c % 4 = 1 ∧ ¬ c % 4 = 2) := by omega
        rcases h with h | h | ⟨h, h'⟩
        · simp [hm2, h, p_law_high_c_b1, line_le]; rfl
        · simp [hm2, h, p_law_high_c_b1, line_le]; rfl
        · simp [hm2, h, h', p_law_high_c_b1, line_le]; rfl
      · simp [hm2]
    have e2 : exZs (ZG T (k + 1)) whileV (p_law_high_c_1 x) [some (prD q), some (.int mode), some (.int c), none, none] = exZs (ZG T (k + 1)) whileV (p_law_high_c_3 x) [some (prD q), some (.int mode), some (.int c), some (prD (if c % 4 = 1 then (1, 9) else if c % 4 = 2 then (-1, 9) else (0, 1))), none] := by
      simp [p_law_high_c_1, p_law_high_c_2, h5, line_le, vNeg, be]
    rw [e2, e3, fin_rt]
    split <;> rfl
theorem lrowZ [Lib T x 38 p_law_plus] [Lib T x 40 p_law_high] [P : Lib T x 41 p_law_row] {c n mode far : Int} {m : Nat} (hn : 2 ≤ n) (hn2 : n ≤ 1000) (hf : far.natAbs < 2 ^ m) (h3 : 3 ≤ m) (hm : m ≤ 1000) : cl T (k + 3) (x 41) [.int c, .int n, .int mode, .int far] = .ok (rowD (rowF c n mode far)) := by
  rw [cl_eq P.eq rfl rfl]
  have hz := lhighZ (T := T) (x := x) (k := k) (c0 := c) (mode := mode) (c := moreF c / 828) hf h3 hm
  have mo : mulOk (moreF c % 23 - 8) far = true := mulOk_ls (by omega) (by omega)
  have p1 : 0 < n := by omega
  have p2 : 0 < n - 1 := by omega
  have q2 : 1 < n := by omega
  have g1 : ∀ a4 a5 : Option D, exZs (ZG T (k + 2)) whileV (p_law_row_c_1 x) [some (.int c), some (.int n), some (.int mode), some (.int far), a4, a5, some (.int (c / 10710 % 3)), some (Tp [.int 1, .int 1]), none, none, none] = exZs (ZG T (k + 2)) whileV (p_law_row_c_3 x) [some (.int c), some (.int n), some (.int mode), some (.int far), a4, a5, some (.int (c / 10710 % 3)), some (prD (gnF c)), none, none, none] := by
    intro a4 a5
    unfold gnF prD
    by_cases h1 : c / 10710 % 3 = 1
    · simp [p_law_row_c_1, p_law_row_c_2, p_law_row_c_b1, h1, line_le]
    · by_cases h2 : c / 10710 % 3 = 2
      · simp [p_law_row_c_1, p_law_row_c_2, p_law_row_c_b2, h2, line_le]
      · simp [p_law_row_c_1, p_law_row_c_2, h1, h2]
  have g3 : ∀ a4 a5 a6 a7 : Option D, exZs (ZG T (k + 2)) whileV (p_law_row_c_3 x) [some (.int c), some (.int n), some (.int mode), some (.int far), a4, a5, a6, a7, none, none, none] = exZs (ZG T (k + 2)) whileV (p_law_row_c_6 x) [some (.int c), some (.int n), some (.int mode), some (.int far), a4, a5, a6, a7, some (.int (moreF c)), some (prO (ptF c mode far)), none] := by
    intro a4 a5 a6 a7
    have mm : mulOk c 16807 = true := mulOk_rs (by omega) (by omega)
    have e : exZs (ZG T (k + 2)) whileV (p_law_row_c_3 x) [some (.int c), some (.int n), some (.int mode), some (.int far), a4, a5, a6, a7, none, none, none] = exZs (ZG T (k + 2)) whileV (p_law_row_c_4 x) [some (.int c), some (.int n), some (.int mode), some (.int far), a4, a5, a6, a7, some (.int (moreF c)), some (prD ((moreF c % 23 - 8) * far, 1 + moreF c / 23 % 6)), none] := by
      unfold moreF at mo ⊢
      simp [p_law_row_c_3, mm, mo, line_le, prD]
    rw [e]
    unfold ptF
    by_cases h0 : moreF c / 138 % 6 = 0
    · by_cases h2 : mode < 2
      · simp [p_law_row_c_4, p_law_row_c_5, p_law_row_c_b3, p_law_row_c_b4, h0, h2, line_le, prO]
      · simp [p_law_row_c_4, p_law_row_c_5, p_law_row_c_b3, p_law_row_c_b4, h0, h2, line_le, prO]
    · by_cases h2 : mode < 2
      · simp [p_law_row_c_4, p_law_row_c_5, p_law_row_c_b3, p_law_row_c_b4, h0, h2, line_le, prO, prD]
      · simp [p_law_row_c_4, p_law_row_c_5, p_law_row_c_b3, p_law_row_c_b4, h0, h2, line_le, prO, prD]
  simp [p_law_row, p_law_row_c, p1, q2, line_le, g1, g3]
  simp [p_law_row_c_6, hz, line_le]
  rfl
end
end GS

namespace GS
open PySem PySem.Spec PyProof.Rows L2

/-! # ways of rows -/
def nmOf (names : List Str) (i : Int) : Str := names.getD i.toNat ⟨#[]⟩
theorem ix_names {names : List Str} {i : Int} (h0 : 0 ≤ i) (h : i < names.length) : vIx (L (names.map .str)) (.int i) = .ok (.str (nmOf names i)) := by
  obtain ⟨j, rfl⟩ : ∃ j : Nat, i = j := ⟨i.toNat, by omega⟩
  have hj : j < names.length := by omega
  show Res.ofOpt (atI (names.map D.str) (j : Int)) = _
  rw [at_nat, List.getElem?_map, List.getElem?_eq_getElem hj]
  unfold nmOf
  rw [Int.toNat_natCast, List.getD_eq_getElem?_getD, List.getElem?_eq_getElem hj]
  rfl
theorem nmOf_mem {names : List Str} {i : Int} (h0 : 0 ≤ i) (h : i < names.length) : nmOf names i ∈ names := by
  unfold nmOf
  have hj : i.toNat < names.length := by omega
  rw [List.getD_eq_getElem?_getD, List.getElem?_eq_getElem hj]
  exact List.getElem_mem hj
theorem nmOf_inj {names : List Str} {i j : Int} (nd : names.Nodup) (h0 : 0 ≤ i) (h : i < names.length) (g0 : 0 ≤ j) (g : j < names.length) (e : nmOf names i = nmOf names j) : i = j := by
  unfold nmOf at e
  have hi : i.toNat < names.length := by omega
  have hj : j.toNat < names.length := by omega
  rw [List.getD_eq_getElem?_getD, List.getElem?_eq_getElem hi, List.getD_eq_getElem?_getD, List.getElem?_eq_getElem hj] at e
  have e : names[i.toNat] = names[j.toNat] := e
  have := (List.getElem_inj nd).mp e
  omega
structure RowOk (n : Nat) (M : Nat) (r : Row) : Prop where
  k : r.k = 0 ∧ r.gn = (1, 1) ∨ r.k = 1 ∧ 1 ≤ r.gn.1 ∧ r.gn.1 ≤ 9 ∧ 1 ≤ r.gn.2 ∧ r.gn.2 ≤ 7 ∨ r.k = 2 ∧ 1 ≤ r.gn.1 ∧ r.gn.1 ≤ 9 ∧ r.gn.2 = 10
  s0 : 0 ≤ r.s
  s1 : r.s < n
  g0 : 0 ≤ r.g
  g1 : r.g < n
  sg : r.s ≠ r.g
  hi : ∀ p, r.hi = some p → Psz (10 + M) p ∧ 0 ≤ p.1 ∧ 1 ≤ p.2
  co : -8 < r.co.1 ∧ r.co.1 < 8 ∧ 1 ≤ r.co.2 ∧ r.co.2 ≤ 4
  pt : ∀ p, r.pt = some p → p.1.natAbs < 2 ^ (5 + M) ∧ 1 ≤ p.2 ∧ p.2 ≤ 6
theorem row_ok {c mode far : Int} {n m : Nat} (hn : 2 ≤ n) (hf : far.natAbs < 2 ^ m) (h3 : 3 ≤ m) : RowOk n m (rowF c n mode far) := by
  have k3 : c / 10710 % 3 = 0 ∨ c / 10710 % 3 = 1 ∨ c / 10710 % 3 = 2 := by omega
  have e1 := Int.emod_nonneg c (show (n : Int) ≠ 0 by omega)
  have e2 := Int.emod_lt_of_pos c (show 0 < (n : Int) by omega)
  have f1 := Int.emod_nonneg (c / 14) (show (n : Int) - 1 ≠ 0 by omega)
  have f2 := Int.emod_lt_of_pos (c / 14) (show 0 < (n : Int) - 1 by omega)
  refine ⟨?_, e1, e2, Int.emod_nonneg _ (by omega), Int.emod_lt_of_pos _ (by omega), ?_, fun p hp => hi_ok hf h3 hp, ?_, fun p hp => pt_sz hf h3 hp⟩
  · show c / 10710 % 3 = 0 ∧ gnF c = (1, 1) ∨ c / 10710 % 3 = 1 ∧ _ ∨ c / 10710 % 3 = 2 ∧ _
    rcases k3 with h | h | h
    · refine .inl ⟨h, ?_⟩
      unfold gnF
      rw [if_neg (by omega), if_neg (by omega)]
    · refine .inr (.inl ⟨h, ?_⟩)
      show 1 ≤ (gnF c).1 ∧ (gnF c).1 ≤ 9 ∧ 1 ≤ (gnF c).2 ∧ (gnF c).2 ≤ 7
      unfold gnF
      rw [if_pos h]
      dsimp only
      refine ⟨?_, ?_, ?_, ?_⟩ <;> omega
    · refine .inr (.inr ⟨h, ?_⟩)
      show 1 ≤ (gnF c).1 ∧ (gnF c).1 ≤ 9 ∧ (gnF c).2 = 10
      unfold gnF
      rw [if_neg (by omega), if_pos h]
      dsimp only
      refine ⟨?_, ?_, ?_⟩ <;> omega
  · show c % n ≠ (c % n + 1 + c / 14 % (n - 1)) % n
    intro e
    by_cases hw : c % n + 1 + c / 14 % ((n : Int) - 1) < n
    · rw [Int.emod_eq_of_lt (by omega) hw] at e
      omega
    · have : (c % n + 1 + c / 14 % ((n : Int) - 1)) % n = c % n + 1 + c / 14 % ((n : Int) - 1) - n := by
        rw [← Int.sub_emod_right]
        exact Int.emod_eq_of_lt (by omega) (by omega)
      omega
  · show -8 < moreF c / 16560 % 15 - 7 ∧ moreF c / 16560 % 15 - 7 < 8 ∧ 1 ≤ 1 + moreF c / 248400 % 4 ∧ 1 + moreF c / 248400 % 4 ≤ 4
    refine ⟨?_, ?_, ?_, ?_⟩ <;> omega
def kdR (r : Row) : Kd := if r.k = 0 then .plain else if r.k = 1 then .grow (qf r.gn) else .leak (qf (r.gn.2 - r.gn.1, r.gn.2))
def wyR (r : Row) (nm : Str) (names : List Str) : Wy := ⟨kdR r, nm, nmOf names r.s, nmOf names r.g, r.hi.map qf, qf r.co⟩
section
variable {n M : Nat} {r : Row}
theorem kd_gain (h : RowOk n M r) : (kdR r).gain = qf r.gn := by
  unfold kdR
  rcases h.k with ⟨h1, h2⟩ | ⟨h1, h2⟩ | ⟨h1, h2⟩
  · rw [if_pos h1, h2]; decide +kernel
  · rw [if_neg (by omega), if_pos h1]; rfl
  · rw [if_neg (by omega), if_neg (by omega)]
    show 1 - qf (r.gn.2 - r.gn.1, r.gn.2) = qf r.gn
    have e : (1 : Rat) = qf (r.gn.2, r.gn.2) := by
      have : qf (r.gn.2, r.gn.2) = Rat.divInt 1 1 := (Rat.divInt_eq_divInt_iff (show r.gn.2 ≠ 0 by omega) (by decide)).mpr (by dsimp only; omega)
      rw [this, one_div1]
    have e2 : qf (r.gn.2, r.gn.2) = qf (r.gn.2 - r.gn.1, r.gn.2) + qf r.gn := by
      unfold qf
      rw [Rat.divInt_add_divInt _ _ (show r.gn.2 ≠ 0 by omega) (show r.gn.2 ≠ 0 by omega)]
      refine (Rat.divInt_eq_divInt_iff (show r.gn.2 ≠ 0 by omega) (Int.mul_ne_zero (show r.gn.2 ≠ 0 by omega) (show r.gn.2 ≠ 0 by omega))).mpr ?_
      dsimp only
      rw [← Int.add_mul, show r.gn.2 - r.gn.1 + r.gn.1 = r.gn.2 by omega, Int.mul_assoc]
    rw [e, e2]
    grind
theorem gn_psz (h : RowOk n M r) : Psz 4 r.gn ∧ 1 ≤ r.gn.2 ∧ r.gn.2 ≤ 10 := by
  rcases h.k with ⟨h1, h2⟩ | ⟨h1, h2⟩ | ⟨h1, h2⟩
  · rw [h2]; exact ⟨⟨by decide, by decide, by decide⟩, by decide, by decide⟩
  · exact ⟨⟨by omega, by omega, by omega⟩, by omega, by omega⟩
  · exact ⟨⟨by omega, by omega, by omega⟩, by omega, by omega⟩
theorem wyR_ok {names : List Str} {nm : Str} (h : RowOk n M r) (nd : names.Nodup) (hl : names.length = n) : WyOk (wyR r nm names) := by
  have hk := h.k
  refine ⟨⟨fun e => absurd (nmOf_inj nd h.s0 (by have := h.s1; omega) h.g0 (by have := h.g1; omega) e) h.sg, fun e => ?_⟩, fun q hq => ?_, ?_, ?_⟩
  · exfalso
    have e : (kdR r).c = 4 := e
    unfold kdR at e
    split at e
    · cases e
    · split at e <;> cases e
  · obtain ⟨p, hp, rfl⟩ := Option.map_eq_some_iff.mp hq
    obtain ⟨_, h2, h3⟩ := h.hi p hp
    exact qf_nn h2 (by omega)
  · show (kdR r).ok
    unfold kdR
    rcases hk with ⟨h1, h2⟩ | ⟨h1, h2⟩ | ⟨h1, h2⟩
    · rw [if_pos h1]; trivial
    · rw [if_neg (by omega), if_pos h1]
      exact qf_pos (by omega) (by omega)
    · rw [if_neg (by omega), if_neg (by omega)]
      exact ⟨qf_nn (show 0 ≤ r.gn.2 - r.gn.1 by omega) (show 0 < r.gn.2 by omega), qf_lt1 (show r.gn.2 - r.gn.1 < r.gn.2 by omega) (show 0 < r.gn.2 by omega)⟩
  · show bs (kdR r).part ≤ 3000
    unfold kdR
    rcases hk with ⟨h1, h2⟩ | ⟨h1, h2⟩ | ⟨h1, h2⟩
    · rw [if_pos h1]
      show bs 0 ≤ _
      rw [bs_zero]; omega
    · rw [if_neg (by omega), if_pos h1]
      have := (gn_psz h).1.bs
      show bs (qf r.gn) ≤ _
      omega
    · rw [if_neg (by omega), if_neg (by omega)]
      have : Psz 4 (r.gn.2 - r.gn.1, r.gn.2) := ⟨by dsimp only; omega, by dsimp only; omega, by dsimp only; omega⟩
      have := this.bs
      show bs (qf (r.gn.2 - r.gn.1, r.gn.2)) ≤ _
      omega
theorem wyR_st {names : List Str} {nm : Str} : (wyR r nm names).kd.c ≠ 4 := by
  show (kdR r).c ≠ 4
  unfold kdR
  split
  · decide
  · split
    · exact (by decide : ¬ (2 = 4))
    · exact (by decide : ¬ (3 = 4))
end
section
variable {T : TB} {x : Nat → Nat} {k : Nat}
theorem frP [F : Fr T x] {p : IP} {m : Nat} (h : Psz m p) (hm : m ≤ 8000) : mkZ T (k + 3) 0 [.int p.1, .int p.2] = .ok (frZ (qf p)) := fr_mk (x := x) h.z (Nat.lt_of_lt_of_le h.d (Nat.pow_le_pow_right (by omega) hm))
variable [F : Fr T x] [G : WyF T x] [Lib T x 14 p_Fraction_sign] [Mth T x 0 8 14] [Lib T x 13 p_Fraction_under] [Mth T x 0 6 13] [W1 : Lib T x 15 p_Way__init] [W2 : Lib T x 20 p_Growing__init] [W3 : Lib T x 23 p_Leaking__init] [W4 : Lib T x 27 p_Store__init] [Lib T x 16 p_Way_stays] [Lib T x 28 p_Store_stays] [Mth T x 1 17 16] [Mth T x 2 17 16] [Mth T x 3 17 16] [Mth T x 4 17 28] [P : Lib T x 42 p_law_way]
include F G W1 W2 W3 W4 P
theorem lwayZ {n M : Nat} {r : Row} {nm : Str} {names : List Str} (h : RowOk n M r) (nd : names.Nodup) (hl : names.length = n) (hM : M ≤ 1000) : cl T (k + 8) (x 42) [rowD r, .str nm, L (names.map .str)] = .ok (wyD (wyR r nm names)) := by
  rw [cl_eq P.eq rfl rfl]
  have w := mk_wyZ (T := T) (x := x) (k := k) (wyR_ok (nm := nm) h nd hl)
  have i1 := ix_names (names := names) h.s0 (by have := h.s1; omega)
  have i2 := ix_names (names := names) h.g0 (by have := h.g1; omega)
  have gp := gn_psz h
  have fco := frP (T := T) (x := x) (k := k + 4) (p := r.co) (m := 4) ⟨by have := h.co; omega, by have := h.co; omega, by have := h.co; omega⟩ (by omega)
  have fgn := frP (T := T) (x := x) (k := k + 4) gp.1 (by omega)
  have hk := h.k
  have hhi := h.hi
  have lk : r.k = 2 → Psz 4 (r.gn.2 - r.gn.1, r.gn.2) := fun e => by
    rcases hk with ⟨h1, h2⟩ | ⟨h1, h2⟩ | ⟨h1, h2⟩
    · omega
    · omega
    · exact ⟨by dsimp only; omega, by dsimp only; omega, by dsimp only; omega⟩
  have e2 : ∀ hb : Option Rat, hb = r.hi.map qf → fin (exZs (ZG T (k + 7)) whileV (p_law_way_c_2 x) [some (rowD r), some (.str nm), some (L (names.map .str)), some (hiD hb), none, some (.int r.k), some (.int r.s), some (.int r.g), some (prD r.gn), some (prO r.pt), some (prO r.hi), some (prD r.co)]) = .ok (wyD (wyR r nm names)) := by
    intro hb ehb
    subst ehb
    unfold wyR at w
    unfold kdR at w
    rcases hk with ⟨h1, h2⟩ | ⟨h1, h2⟩ | ⟨h1, h2⟩
    · rw [if_pos h1] at w
      simp [p_law_way_c_2, p_law_way_c_3, fco, h1, i1, i2, w]
      unfold wyR kdR
      rw [if_pos h1]
    · rw [if_neg (by omega), if_pos h1] at w
      simp [p_law_way_c_2, p_law_way_c_3, p_law_way_c_4, fco, fgn, h1, i1, i2, w]
      unfold wyR kdR
      rw [if_neg (by omega), if_pos h1]
    · have fl := frP (T := T) (x := x) (k := k + 4) (lk h1) (by omega)
      rw [if_neg (by omega), if_neg (by omega)] at w
      simp [p_law_way_c_2, p_law_way_c_3, p_law_way_c_4, p_law_way_c_5, fco, fl, h1, i1, i2, w]
      unfold wyR kdR
      rw [if_neg (by omega), if_neg (by omega)]
  cases hh : r.hi with
  | none =>
    have e3 := e2 none (by rw [hh]; rfl)
    rw [hh] at e3
    simp [p_law_way, p_law_way_c, p_law_way_c_1, rowD, prO, hh] at e3 ⊢
    exact e3
  | some p =>
    have fp := frP (T := T) (x := x) (k := k + 4) (hhi p hh).1 (by omega)
    have e3 := e2 (some (qf p)) (by rw [hh]; rfl)
    rw [hh] at e3
    simp [p_law_way, p_law_way_c, p_law_way_c_1, p_law_way_c_b1, rowD, prO, hh, fp, hiD] at e3 ⊢
    exact e3
end
end GS

namespace GS
open PySem PySem.Spec PyProof.Rows L2

/-! # refusals, and numbers of up to 60 figures -/
/-- so many figures (binary) has a cell at most -/
def Sm (c : Int) : Prop := ∃ K : Nat, K ≤ 1100000 ∧ c.natAbs < 2 ^ K
theorem sm_of {ns : List Int} (hs : Scr ns) (j : Nat) : Sm (ns.getD j 0) := by
  rw [List.getD_eq_getElem?_getD]
  cases e : ns[j]? with
  | none => exact ⟨0, by omega, by decide⟩
  | some z =>
    have hb := hs.2 z (List.mem_of_getElem? e)
    refine ⟨1048576, by omega, ?_⟩
    show z.natAbs < _
    by_cases hz : z = 0
    · subst hz; exact Nat.two_pow_pos _
    · unfold Builtin.Int.intBits at hb
      rw [if_neg (by simpa using hz)] at hb
      exact (Nat.log2_lt (by omega)).mp (by omega)
theorem sm_div {c : Int} {d : Int} (h : Sm c) : Sm (c / d) := by
  obtain ⟨K, hK, hc⟩ := h
  exact ⟨K, hK, Nat.lt_of_le_of_lt (Int.natAbs_ediv_le_natAbs c d) hc⟩
theorem mulOk_B2 {i j : Int} {a b : Nat} (h1 : i.natAbs < 2 ^ a) (h2 : j.natAbs < 2 ^ b) (h : a + b ≤ 2000000) : mulOk i j = true := by
  have e1 := bits_lt h1
  have e2 := bits_lt h2
  unfold mulOk Builtin.Int.intTooBig
  have : decide (((Builtin.Int.intBits i : Nat) : Int) + ((Builtin.Int.intBits j : Nat) : Int) > ((bitsLine : Nat) : Int)) = false := by
    apply decide_eq_false
    unfold bitsLine
    omega
  rw [this, Bool.and_false]
  rfl
theorem sm_mul {i : Int} {j : Int} (h : Sm i) (hj : j.natAbs < 2 ^ 400000) : mulOk i j = true := by
  obtain ⟨K, hK, hc⟩ := h
  exact mulOk_B2 hc hj (by omega)
def numBy (c : Int) : Int := if c % 5 = 0 then c / 5 * 982451653 * 100000000000000000000000000000000000000000000000000 % 2000000000000000000000000000000000000000000000000000000000001 - 1000000000000000000000000000000000000000000000000000000000000 else if c % 5 = 1 then c / 5 % 2001 - 1000 else c / 5 % 13 - 6
theorem numBy_le (c : Int) : (numBy c).natAbs ≤ 1000000000000000000000000000000000000000000000000000000000000 := by
  unfold numBy
  split
  · omega
  · split <;> omega
theorem numBy_lt (c : Int) : (numBy c).natAbs < 2 ^ 200 := Nat.lt_of_le_of_lt (numBy_le c) (by decide +kernel)
section
variable {T : TB} {x : Nat → Nat} {k : Nat}
theorem numByZ [P : Lib T x 76 p_law_number_by] {c : Int} (h : Sm c) : cl T (k + 1) (x 76) [.int c] = .ok (.int (numBy c)) := by
  obtain ⟨K, hK, hc⟩ := h
  rw [cl_eq P.eq rfl rfl]
  have h1 : (c / 5 * 982451653).natAbs < 2 ^ (K + 30) := by
    have : (c / 5).natAbs ≤ c.natAbs := by omega
    rw [Int.natAbs_mul, Nat.pow_add]
    have e : (982451653 : Int).natAbs < 2 ^ 30 := by decide
    exact Nat.mul_lt_mul_of_le_of_lt (Nat.le_trans this (Nat.le_of_lt hc)) e (Nat.two_pow_pos _)
  have m1 : mulOk (c / 5 * 982451653) 100000000000000000000000000000000000000000000000000 = true := mulOk_B2 (b := 200) h1 (by decide +kernel) (by omega)
  unfold numBy
  by_cases h5 : c % 5 = 0
  · simp [p_law_number_by, h5, m1]
  · by_cases h6 : c % 5 = 1
    · simp [p_law_number_by, h6]
    · simp [p_law_number_by, h5, h6]
/-- Fraction(t, 0) -/
theorem fr_mk0 [F : Fr T x] [E : Exc T 8 [8, 7, 999] []] {t : Int} : mkZ T (k + 3) 0 [.int t, .int 0] = .ex 8 [] := by
  rw [mk_eq (df := p_Fraction__init x) (as := [.int t, .int 0]) F.ini F.fi rfl (Nat.le_refl 3)]
  show ((exZs (ZG T (k + 1)) whileV (p_Fraction__init x).code [some (.ins .fz 0 [] []), some (.int t), some (.int 0), none]).toRZ).madeZ = _
  simp [p_Fraction__init, Out.toRZ, RO.madeZ]
section
variable {s : Sl} {W : (Sl → Sl ⊕ Out) → Sl → Out}
@[simp] theorem xh_some {c hc i : Nat} {su : List Cm} {hs : Hd} {ds : List D} {sb fs sb2 fs2 : List Nat} [E : Exc T c sb fs] [E2 : Exc T hc sb2 fs2] (h1 : 999 ∈ sb) (h2 : 999 ∈ sb2) (hy : hc ∈ sb) (hl : fs.length = ds.length) (hi : i < s.length) :
    exZH (ZG T (k + 2)) W (.cons hc (some i) su hs) c ds s = (exZs (ZG T (k + 2)) W su (s.set i (some (.ins .fz c fs.reverse ds.reverse)))).hend (some i) :=
  xh_yes h1 h2 hy hl (.inl (by omega)) (by show (if i < s.length then _ else none) = _; rw [if_pos hi])
@[simp] theorem xh_none {c hc : Nat} {su : List Cm} {hs : Hd} {ds : List D} {sb fs sb2 fs2 : List Nat} [E : Exc T c sb fs] [E2 : Exc T hc sb2 fs2] (h1 : 999 ∈ sb) (h2 : 999 ∈ sb2) (hy : hc ∈ sb) (hl : fs.length = ds.length) :
    exZH (ZG T (k + 2)) W (.cons hc none su hs) c ds s = (exZs (ZG T (k + 2)) W su s).hend none :=
  xh_yes h1 h2 hy hl (.inl (by omega)) rfl
@[simp] theorem xh_not {c hc : Nat} {o : Option Nat} {su : List Cm} {hs : Hd} {ds : List D} {sb fs sb2 fs2 : List Nat} [E : Exc T c sb fs] [E2 : Exc T hc sb2 fs2] (h1 : 999 ∈ sb) (h2 : 999 ∈ sb2) (hn : hc ∉ sb) : exZH (ZG T k) W (.cons hc o su hs) c ds s = exZH (ZG T k) W hs c ds s := xh_no h1 h2 hn
end
@[simp] theorem notN_ins {c : Nat} {m : Md} {fs : List Nat} {ds : List D} : vCop .notN (.ins m c fs ds) .non = .ok true := by first | rfl | simp [vCop]
@[simp] theorem isN_ins {c : Nat} {m : Md} {fs : List Nat} {ds : List D} : vCop .isN (.ins m c fs ds) .non = .ok false := by first | rfl | simp [vCop]
/-- what _law_kinds tells -/
def kindOf : Nat → Str
  | 8 => "NoNumber"
  | 9 => "TooMany"
  | 10 => "a ring, a strand, an exchange"
  | 11 => "a ring, a strand, an exchange"
  | 12 => "a ring, a strand, an exchange"
  | 13 => "a text, a row, a walk"
  | 14 => "a text, a row, a walk"
  | 16 => "a text, a row, a walk"
  | 15 => "NoWay"
  | 17 => "Twice"
  | 18 => "NoPlace"
  | 19 => "OverBound"
  | 20 => "Short"
  | _ => ""
class Exs (T : TB) : Prop where
  e8 : T.sub 8 = [8, 7, 999]
  e9 : T.sub 9 = [9, 7, 999]
  e10 : T.sub 10 = [10, 7, 999]
  e11 : T.sub 11 = [11, 7, 999]
  e12 : T.sub 12 = [12, 7, 999]
  e13 : T.sub 13 = [13, 7, 999]
  e14 : T.sub 14 = [14, 7, 999]
  e16 : T.sub 16 = [16, 7, 999]
  e15 : T.sub 15 = [15, 7, 999]
  e17 : T.sub 17 = [17, 7, 999]
  e18 : T.sub 18 = [18, 7, 999]
  e19 : T.sub 19 = [19, 7, 999]
  e20 : T.sub 20 = [20, 7, 999]
theorem kindsZ [P : Lib T x 77 p_law_kinds] {c : Nat} {m : Md} {fs : List Nat} {ds : List D} (hs : T.sub c = [c, 7, 999]) (hc : c = 8 ∨ c = 9 ∨ c = 10 ∨ c = 11 ∨ c = 12 ∨ c = 13 ∨ c = 14 ∨ c = 15 ∨ c = 16 ∨ c = 17 ∨ c = 18 ∨ c = 19 ∨ c = 20) : cl T (k + 1) (x 77) [.ins m c fs ds] = .ok (L [.str (kindOf c)]) := by
  have hi : ∀ q, vIsi T.sub (.cls q) (.ins m c fs ds) = .ok (decide (q ∈ [c, 7, 999])) := fun q => by
    show Res.guard (!(T.sub c).isEmpty) (.ok (decide (q ∈ T.sub c))) = _
    rw [hs]; rfl
  have hv : vIsi T.sub .verr (.ins m c fs ds) = .ok true := by
    show Res.guard (xcB T.sub c) (.ok true) = _
    unfold xcB
    rw [hs]; simp
  rw [cl_eq P.eq rfl rfl]
  rcases hc with e | e | e | e | e | e | e | e | e | e | e | e | e <;> subst e <;> simp [p_law_kinds, p_law_kinds_c, p_law_kinds_c_1, p_law_kinds_c_2, p_law_kinds_c_3, p_law_kinds_c_4, p_law_kinds_c_5, p_law_kinds_c_6, p_law_kinds_c_7, p_law_kinds_c_8, p_law_kinds_c_9, p_law_kinds_c_10, p_law_kinds_c_11, hi, hv, kindOf, line_lt, line_le]
end
end GS

namespace GS
open PySem PySem.Spec PyProof.Rows L2

/-! # lists and tuples alike -/
mutual
def D.dok : D → Bool
  | .non => true
  | .bl _ => true
  | .int _ => true
  | .str x => PyData.strOk x
  | .lst _ ds => D.doks ds
  | .tup _ ds => D.doks ds
  | _ => false
def D.doks : List D → Bool
  | [] => true
  | d :: ds => D.dok d && D.doks ds
end
mutual
def D.dep : D → Nat
  | .lst _ ds => D.deps ds + 1
  | .tup _ ds => D.deps ds + 1
  | _ => 0
def D.deps : List D → Nat
  | [] => 0
  | d :: ds => max (D.dep d) (D.deps ds)
end
mutual
theorem dok_py : ∀ d : D, d.dok = true → ∃ a, d.py = some a ∧ a.canLay0 = true ∧ a.depth = d.dep ∧ PyData.eqv a a = true
  | .non, _ => ⟨.none, by simp [D.py], by simp [PyData.canLay0], by simp [PyData.depth, D.dep], by simp [PyData.eqv]⟩
  | .bl b, _ => ⟨.bool b, by simp [D.py], by simp [PyData.canLay0], by simp [PyData.depth, D.dep], by simp [PyData.eqv]⟩
  | .int i, _ => ⟨.int i, by simp [D.py], by simp [PyData.canLay0], by simp [PyData.depth, D.dep], by simp [PyData.eqv]⟩
  | .str x, h => ⟨.str x, by simp [D.py], by simpa [PyData.canLay0, D.dok] using h, by simp [PyData.depth, D.dep], by simp [PyData.eqv]⟩
  | .lst m ds, h => by
    obtain ⟨as, h1, h2, h3, h4⟩ := doks_py ds (by simpa [D.dok] using h)
    exact ⟨.list as, by simp [D.py, h1], by simp [PyData.canLay0, h2], by simp [PyData.depth, D.dep, h3], by simp [PyData.eqv, h4]⟩
  | .tup m ds, h => by
    obtain ⟨as, h1, h2, h3, h4⟩ := doks_py ds (by simpa [D.dok] using h)
    exact ⟨.tuple as, by simp [D.py, h1], by simp [PyData.canLay0, h2], by simp [PyData.depth, D.dep, h3], by simp [PyData.eqv, h4]⟩
  | .dic _ _ _, h => by simp [D.dok] at h
  | .ins _ _ _ _, h => by simp [D.dok] at h
theorem doks_py : ∀ ds : List D, D.doks ds = true → ∃ as, D.pys ds = some as ∧ PyData.canLayAll0 as = true ∧ PyData.depthAll as = D.deps ds ∧ PyData.eqvAll as as = true
  | [], _ => ⟨[], by simp [D.pys], by simp [PyData.canLayAll0], by simp [PyData.depthAll, D.deps], by simp [PyData.eqvAll]⟩
  | d :: ds, h => by
    have h' : d.dok = true ∧ D.doks ds = true := by simpa [D.doks] using h
    obtain ⟨a, h1, h2, h3, h4⟩ := dok_py d h'.1
    obtain ⟨as, g1, g2, g3, g4⟩ := doks_py ds h'.2
    exact ⟨a :: as, by simp [D.pys, h1, g1], by simp [PyData.canLayAll0, h2, g2], by simp [PyData.depthAll, D.deps, h3, g3], by simp [PyData.eqvAll, h4, g4]⟩
end
theorem vEq_py {x y : D} {a b : PyData} (hx : x.py = some a) (hy : y.py = some b) (ha : a.canLay0 = true) (hb : b.canLay0 = true) (da : a.depth ≤ 64) (db : b.depth ≤ 64) (hl : (∃ m ds, x = .lst m ds) ∨ ∃ m ds, x = .tup m ds) : vEq x y = .ok (PyData.eqv a b) := by
  have e : vEq x y = (match x.py, y.py with
    | some a, some b => Res.guard (SeqAt.shaped a && SeqAt.shaped b) (.ok (PyData.eqv a b))
    | _, _ => .stuck) := by
    rcases hl with ⟨m, ds, e⟩ | ⟨m, ds, e⟩ <;> subst e <;> cases y <;> rfl
  rw [e, hx, hy]
  dsimp only
  unfold SeqAt.shaped
  rw [ha, hb, decide_eq_true da, decide_eq_true db]
  rfl
theorem vEq_refl {x : D} (h : x.dok = true) (hd : x.dep ≤ 64) : vEq x x = .ok true := by
  obtain ⟨a, h1, h2, h3, h4⟩ := dok_py x h
  cases x with
  | lst m ds => rw [vEq_py h1 h1 h2 h2 (by omega) (by omega) (.inl ⟨_, _, rfl⟩), h4]
  | tup m ds => rw [vEq_py h1 h1 h2 h2 (by omega) (by omega) (.inr ⟨_, _, rfl⟩), h4]
  | int i => show Res.ok (decide (i = i)) = _; simp
  | bl i => show Res.ok (decide (i = i)) = _; simp
  | str i => show Res.ok (decide (i = i)) = _; simp
  | non => rfl
  | dic _ _ _ => simp [D.dok] at h
  | ins _ _ _ _ => simp [D.dok] at h
theorem doks_map {α : Type} (f : α → D) (xs : List α) (h : ∀ x ∈ xs, (f x).dok = true) : D.doks (xs.map f) = true := by
  induction xs with
  | nil => rfl
  | cons x xs ih => rw [List.map_cons, D.doks, h x (by simp), ih fun y hy => h y (by simp [hy])]; rfl
theorem deps_map {α : Type} (f : α → D) (n : Nat) (xs : List α) (h : ∀ x ∈ xs, (f x).dep ≤ n) : D.deps (xs.map f) ≤ n := by
  induction xs with
  | nil => simp [D.deps]
  | cons x xs ih => rw [List.map_cons, D.deps]; exact Nat.max_le.mpr ⟨h x (by simp), ih fun y hy => h y (by simp [hy])⟩
theorem pys_strs (xs : List Str) : D.pys (xs.map D.str) = some (xs.map PyData.str) := by
  induction xs with
  | nil => simp [D.pys]
  | cons x xs ih => simp [D.pys, D.py, ih]
theorem eqv_strs : ∀ xs ys : List Str, PyData.eqvAll (xs.map PyData.str) (ys.map PyData.str) = decide (xs = ys)
  | [], [] => by simp [PyData.eqvAll]
  | [], y :: ys => by simp [PyData.eqvAll]
  | x :: xs, [] => by simp [PyData.eqvAll]
  | x :: xs, y :: ys => by
    simp only [List.map_cons, PyData.eqvAll, PyData.eqv, eqv_strs xs ys]
    by_cases h1 : x = y <;> by_cases h2 : xs = ys <;> simp [h1, h2]
theorem lay_strs (xs : List Str) (h : ∀ x ∈ xs, PyData.strOk x = true) : PyData.canLayAll0 (xs.map PyData.str) = true := by
  induction xs with
  | nil => rfl
  | cons x xs ih => rw [List.map_cons, PyData.canLayAll0, ih fun y hy => h y (by simp [hy]), PyData.canLay0, h x (by simp)]; rfl
theorem dep_strs (xs : List Str) : PyData.depthAll (xs.map PyData.str) = 0 := by
  induction xs with
  | nil => rfl
  | cons x xs ih => simp [PyData.depthAll, PyData.depth, ih]
/-- two lists of texts -/
theorem vEq_strs {m m2 : Md} {xs ys : List Str} (h1 : ∀ x ∈ xs, PyData.strOk x = true) (h2 : ∀ x ∈ ys, PyData.strOk x = true) : vEq (.lst m (xs.map D.str)) (.lst m2 (ys.map D.str)) = .ok (decide (xs = ys)) := by
  rw [vEq_py (a := .list (xs.map .str)) (b := .list (ys.map .str)) (by simp [D.py, pys_strs]) (by simp [D.py, pys_strs]) (by simpa [PyData.canLay0] using lay_strs xs h1) (by simpa [PyData.canLay0] using lay_strs ys h2) (by simp [PyData.depth, dep_strs]) (by simp [PyData.depth, dep_strs]) (.inl ⟨_, _, rfl⟩)]
  rw [PyData.eqv, eqv_strs]
/-- a refusal's kind -/
theorem eq_kind {x : Str} (h : PyData.strOk x = true) : vEq (.lst .fz [.str x]) (.lst .fz [.str x]) = .ok true := vEq_refl (by simp [D.dok, D.doks, h]) (by simp [D.dep, D.deps])
end GS

namespace GS
open PySem PySem.Spec PyProof.Rows L2

/-! # fractions: the order, what they show, division by nought -/
theorem int_pos {b : Int} (h : 0 < b) : (0 : Rat) < (b : Rat) := by
  have := Rat.intCast_lt_intCast (a := 0) (b := b)
  simpa using this.mpr h
theorem lt_divInt {a b c d : Int} (hb : 0 < b) (hd : 0 < d) : Rat.divInt a b < Rat.divInt c d ↔ a * d < c * b := by
  have hb' := int_pos hb
  have hd' := int_pos hd
  rw [Rat.divInt_eq_div, Rat.divInt_eq_div, Rat.lt_div_iff hd']
  have e : (a : Rat) / b * d = ((a * d : Int) : Rat) / b := by rw [Rat.intCast_mul]; grind
  rw [e, Rat.div_lt_iff hb', ← Rat.intCast_mul, Rat.intCast_lt_intCast]
@[simp] theorem bl_intb {b : Bool} : vBltZ .int [.bl b] = .ok (.int (if b then 1 else 0)) := rfl
section
variable {T : TB} {x : Nat → Nat} {k : Nat}
theorem overZ0 [F : Fr T x] [P : Lib T x 8 p_Fraction_over] [M : Mth T x 0 5 8] [E : Exc T 8 [8, 7, 999] []] {p : Rat} (h : bs p ≤ 6000) : mt T (k + 4) (frZ p) 5 (.ok [frZ 0]) = .ex 8 [] := by
  rw [mt_fr (x := x) (g := 8) (by decide) (by decide), cl_eq P.eq rfl rfl]
  have b0 : bs 0 = 1 := by decide +kernel
  have m1 : mulOk p.num ((0 : Rat).den) = true := mulOk_bs (bs_num p) (bs_den' 0) (by omega)
  have m3 : mulOk p.den (0 : Rat).num = true := mulOk_bs (bs_den' p) (bs_num 0) (by omega)
  have e1 : ((0 : Rat).num : Int) = 0 := rfl
  have e2 : ((0 : Rat).den : Int) = 1 := rfl
  rw [e2] at m1
  rw [e1] at m3
  simp [p_Fraction_over, F.ok1, F.ok2, m1, m3, fr_mk0 (T := T) (x := x) (k := k)]
theorem sameZ [F : Fr T x] [P : Lib T x 78 p_Fraction_same] [M : Mth T x 0 7 78] {p q : Rat} : mt T (k + 1) (frZ p) 7 (.ok [frZ q]) = .ok (.bl (decide (p = q))) := by
  rw [mt_fr (x := x) (g := 78) (by decide) (by decide), cl_eq P.eq rfl rfl]
  have e : (p = q) ↔ (p.num = q.num ∧ (p.den : Int) = q.den) := by
    constructor
    · intro h; subst h; exact ⟨rfl, rfl⟩
    · intro ⟨h1, h2⟩; exact Rat.ext h1 (by omega)
  by_cases h1 : p.num = q.num
  · by_cases h2 : (p.den : Int) = q.den
    · have h2' : p.den = q.den := by omega
      simp [p_Fraction_same, F.ok1, F.ok2, h1, h2', e]
    · simp [p_Fraction_same, F.ok1, F.ok2, h1, h2, e]
  · simp [p_Fraction_same, F.ok1, F.ok2, h1, e]
/-- what a fraction shows -/
def shown (q : Rat) : Str := if (q.den : Int) = 1 then numS q.num else numS q.num ++ "/" ++ numS q.den
theorem numS_bits {i : Int} {n : Nat} (h : i.natAbs < 2 ^ n) (hn : n ≤ 1900) (h0 : 0 < n) : i.natAbs.log2 < 1920 ∧ (numS i).length ≤ n + 1 := by
  have := log2_of h h0
  refine ⟨by omega, numS_len h0 (Nat.lt_of_lt_of_le h (Nat.pow_le_pow_left (by omega) n))⟩
theorem shownZ [F : Fr T x] [P : Lib T x 79 p_Fraction_shown] [M : Mth T x 0 9 79] {p : Rat} (h : bs p ≤ 1900) : mt T (k + 1) (frZ p) 9 (.ok []) = .ok (.str (shown p)) := by
  rw [mt_fr (x := x) (g := 79) (by decide) (by decide), cl_eq P.eq rfl rfl]
  obtain ⟨a1, a2⟩ := numS_bits (bs_num p) h (bs_pos p)
  obtain ⟨c1, c2⟩ := numS_bits (bs_den' p) h (bs_pos p)
  have e : (("/" : String) : Str).length = 1 := by decide +kernel
  have l1 : okLen ((numS p.num).length + (("/" : String) : Str).length) = true := line_le (by omega)
  have l2 : okLen ((numS p.num).length + (("/" : String) : Str).length + (numS p.den).length) = true := line_le (by omega)
  have c3 : vBltZ .str [.int p.den] = .ok (.str (numS p.den)) := bl_str c1
  unfold shown
  by_cases h1 : (p.den : Int) = 1
  · simp [p_Fraction_shown, F.ok1, F.ok2, h1, a1]
  · simp [p_Fraction_shown, F.ok1, F.ok2, h1, a1, c3, l1, l2]
end
end GS

namespace GS.K03
open PySem PySem.Spec PyProof.Rows L2 GS
/-- where the shared defs stand -/
def ix : Nat → Nat
  | 0 => 0
  | 1 => 1
  | 2 => 2
  | 4 => 3
  | 5 => 4
  | 6 => 12
  | 7 => 13
  | 8 => 16
  | 9 => 14
  | 10 => 15
  | 13 => 17
  | 14 => 19
  | 76 => 5
  | 78 => 18
  | 79 => 20
  | _ => 99999
/-- divisor -/
abbrev df0 : Df := p_divisor ix
/-- _law_cell_at -/
abbrev df1 : Df := p_law_cell_at ix
/-- _law_whole -/
abbrev df2 : Df := p_law_whole ix
/-- _law_divisor -/
abbrev df3 : Df := p_law_divisor ix
/-- _law_is -/
abbrev df4 : Df := p_law_is ix
/-- _law_number_by -/
abbrev df5 : Df := p_law_number_by ix
/-- _law_truth -/
def df6 : Df := ⟨2, 2, [.ret (.and [.isi (.var 0) .bool, .cmp .eq (.var 0) (.var 1)])], []⟩
/-- _law_quotient_is -/
def df7 : Df := ⟨6, 8, [.set 6 (.cst (.bl false)),
  .frz 6,
  .set 7 (.cst .non),
  .frz 7,
  .try_ [.set 7 (.met (.var 0) 5 [.var 1]), .frz 7] (.cons 8 none [.set 6 (.cst (.bl true)), .frz 6] .nil),
  .ite (.cmp .eq (.var 4) (.cst (.int 0))) [.retv 6] [],
  .ret (.and [.not (.var 6), .cal (ix 5) [.var 7, .op .mul (.var 2) (.var 5), .op .mul (.var 3) (.var 4)]])], []⟩
/-- _law_reckoned -/
def df8 : Df := ⟨6, 6, [.ite (.not (.cal (ix 5) [.met (.var 0) 2 [.var 1], .op .add (.op .mul (.var 2) (.var 5)) (.op .mul (.var 4) (.var 3)), .op .mul (.var 3) (.var 5)])) [.ret (.cst (.bl false))] [],
  .ite (.not (.cal (ix 5) [.met (.var 0) 3 [.var 1], .op .sub (.op .mul (.var 2) (.var 5)) (.op .mul (.var 4) (.var 3)), .op .mul (.var 3) (.var 5)])) [.ret (.cst (.bl false))] [],
  .ite (.not (.cal (ix 5) [.met (.var 0) 4 [.var 1], .op .mul (.var 2) (.var 4), .op .mul (.var 3) (.var 5)])) [.ret (.cst (.bl false))] [],
  .ret (.and [.cal 7 [.var 0, .var 1, .var 2, .var 3, .var 4, .var 5], .cal (ix 5) [.var 0, .var 2, .var 3], .cal (ix 5) [.var 1, .var 4, .var 5]])], []⟩
/-- _law_held -/
def df9 : Df := ⟨6, 7, [.ite (.or [.not (.cal 6 [.met (.var 0) 6 [.var 1], .cmp .lt (.op .mul (.var 2) (.var 5)) (.op .mul (.var 4) (.var 3))]), .not (.cal 6 [.met (.var 0) 7 [.var 1], .cmp .eq (.op .mul (.var 2) (.var 5)) (.op .mul (.var 4) (.var 3))])]) [.ret (.cst (.bl false))] [],
  .ite (.or [.not (.cal 6 [.met (.var 0) 6 [.var 0], .cst (.bl false)]), .not (.cal 6 [.met (.var 0) 7 [.var 0], .cst (.bl true)])]) [.ret (.cst (.bl false))] [],
  .set 6 (.met (.var 0) 8 []),
  .frz 6,
  .ret (.and [.cal (ix 2) [.var 6], .cmp .eq (.var 6) (.op .sub (.blt .int [.cmp .gt (.var 2) (.cst (.int 0))]) (.blt .int [.cmp .lt (.var 2) (.cst (.int 0))]))])], []⟩
/-- _law_shows -/
def df10 : Df := ⟨3, 6, [.set 3 (.cal (ix 4) [.var 1, .var 2]),
  .frz 3,
  .set 4 (.blt .str [.op .fdiv (.var 1) (.var 3)]),
  .frz 4,
  .ite (.cmp .ne (.var 3) (.var 2)) [.set 4 (.op .add (.op .add (.var 4) (.cst (.str "/"))) (.blt .str [.op .fdiv (.var 2) (.var 3)])), .frz 4] [],
  .set 5 (.met (.var 0) 9 []),
  .frz 5,
  .ret (.and [.isi (.var 5) .str, .cmp .eq (.var 5) (.var 4)])], []⟩
/-- law -/
def df11_c_b1 : List Cm := .set 3 (.op .mul (.var 1) (.var 6)) ::
  .frz 3 ::
  .set 4 (.op .mul (.var 2) (.var 6)) ::
  .frz 4 ::
  []
def df11_c_b2 : List Cm := .set 3 (.op .sub (.op .add (.var 3) (.cst (.int 1))) (.op .mul (.cst (.int 2)) (.op .mod (.op .fdiv (.var 5) (.cst (.int 4))) (.cst (.int 2))))) ::
  .frz 3 ::
  []
def df11_c_b3 : List Cm := .set 3 (.var 1) ::
  .frz 3 ::
  .set 4 (.var 2) ::
  .frz 4 ::
  .set 8 (.var 7) ::
  .frz 8 ::
  []
def df11_c_b4_2 : List Cm := .kil 9 ::
  []
def df11_c_b4_1 : List Cm := .ite (.or [.not (.cal 9 [.var 7, .var 8, .var 1, .var 2, .var 3, .var 4]), .not (.cal 8 [.var 8, .var 7, .var 3, .var 4, .var 1, .var 2])]) [.ret (.cst (.bl false))] [] ::
  df11_c_b4_2
def df11_c_b4 : List Cm := .ite (.or [.not (.cal 8 [.var 7, .var 8, .var 1, .var 2, .var 3, .var 4]), .not (.cal 9 [.var 8, .var 7, .var 3, .var 4, .var 1, .var 2])]) [.ret (.cst (.bl false))] [] ::
  df11_c_b4_1
def df11_c_6 : List Cm := .kil 9 ::
  .ret (.and [.cal 10 [.var 7, .var 1, .var 2], .cal 10 [.var 8, .var 3, .var 4]]) ::
  []
def df11_c_5 : List Cm := .for_ (.nm 9) (.rng1 (.cst (.int 2))) df11_c_b4 ::
  df11_c_6
def df11_c_4 : List Cm := .ite (.cmp .eq (.op .mod (.var 5) (.cst (.int 4))) (.cst (.int 3))) df11_c_b3 [] ::
  df11_c_5
def df11_c_3 : List Cm := .set 7 (.mak 0 [.var 1, .var 2]) ::
  .frz 7 ::
  .set 8 (.mak 0 [.var 3, .var 4]) ::
  .frz 8 ::
  df11_c_4
def df11_c_2 : List Cm := .ite (.cmp .eq (.op .mod (.var 5) (.cst (.int 4))) (.cst (.int 2))) df11_c_b2 [] ::
  df11_c_3
def df11_c_1 : List Cm := .ite (.or [.cmp .eq (.op .mod (.var 5) (.cst (.int 4))) (.cst (.int 1)), .cmp .eq (.op .mod (.var 5) (.cst (.int 4))) (.cst (.int 2))]) df11_c_b1 [] ::
  df11_c_2
def df11_c : List Cm := .set 1 (.cal (ix 76) [.cal (ix 1) [.var 0, .cst (.int 0)]]) ::
  .frz 1 ::
  .set 2 (.op .add (.cst (.int 1)) (.blt .abs [.cal (ix 76) [.cal (ix 1) [.var 0, .cst (.int 1)]]])) ::
  .frz 2 ::
  .set 3 (.cal (ix 76) [.cal (ix 1) [.var 0, .cst (.int 2)]]) ::
  .frz 3 ::
  .set 4 (.op .add (.cst (.int 1)) (.blt .abs [.cal (ix 76) [.cal (ix 1) [.var 0, .cst (.int 3)]]])) ::
  .frz 4 ::
  .set 5 (.cal (ix 1) [.var 0, .cst (.int 4)]) ::
  .frz 5 ::
  .set 6 (.op .add (.cst (.int 1)) (.op .mod (.op .fdiv (.var 5) (.cst (.int 8))) (.op .pow (.cst (.int 10)) (.cst (.int 20))))) ::
  .frz 6 ::
  df11_c_1
def df11 : Df := ⟨1, 10, df11_c, []⟩
/-- Fraction.__init__ -/
abbrev df12 : Df := p_Fraction__init ix
/-- Fraction.plus -/
abbrev df13 : Df := p_Fraction_plus ix
/-- Fraction.minus -/
abbrev df14 : Df := p_Fraction_minus ix
/-- Fraction.times -/
abbrev df15 : Df := p_Fraction_times ix
/-- Fraction.over -/
abbrev df16 : Df := p_Fraction_over ix
/-- Fraction.under -/
abbrev df17 : Df := p_Fraction_under ix
/-- Fraction.same -/
abbrev df18 : Df := p_Fraction_same ix
/-- Fraction.sign -/
abbrev df19 : Df := p_Fraction_sign ix
/-- Fraction.shown -/
abbrev df20 : Df := p_Fraction_shown ix
def tab0 : TC := ⟨[], [df0, df1, df2, df3, df4, df5, df6, df7, df8, df9, df10, df11, df12, df13, df14, df15, df16, df17, df18, df19, df20], [], [], 12, ((["top", "bottom", "plus", "minus", "times", "over", "under", "same", "sign", "shown", "name", "start", "goal", "high", "cost", "rate", "loss", "stays", "gain", "out", "at_turn", "kept_wants", "kept_ways", "names", "want", "way", "all_ways", "wanting", "place", "bound"] : List Str) ++ (["lacking", "wants", "ways", "kept", "prices", "limits", "net", "plan", "say", "looked", "changed", "planned", "told", "__init__"] : List Str)), ["Fraction", "", "", "", "", "", "", "GainError", "NoNumber", "", "", "", "", "", "", "", "", "", "", "", ""], [(0, 2, 13), (0, 3, 14), (0, 4, 15), (0, 5, 16), (0, 6, 17), (0, 7, 18), (0, 8, 19), (0, 9, 20)], [(0, 12)], [(0, 0), (0, 1)], [[0], [], [], [], [], [], [], [7, 999], [8, 7, 999], [], [], [], [], [], [], [], [], [], [], [], []], [0], [("", .non), ("", .non), ("", .non), ("", .non), ("", .non), ("", .non)], [[], [], [], [], [], [], [], [], [], [], [], [], [], [], [], [], [], [], [], [], []], []⟩
def sgs : List (List Cl × Cl × Cl) := [([⟨false, false, true, true, false⟩, ⟨false, false, true, true, false⟩], Cl.F, Cl.bot),
  ([clB1, ⟨false, false, true, true, false⟩], Cl.F, Cl.bot),
  ([⟨false, false, true, true, false⟩], Cl.F, Cl.bot),
  ([⟨false, false, true, true, false⟩, ⟨false, false, true, true, false⟩], Cl.F, Cl.bot),
  ([⟨false, false, true, true, false⟩, ⟨false, false, true, true, false⟩, ⟨false, false, true, true, false⟩], Cl.F, Cl.bot),
  ([⟨false, false, true, true, false⟩], Cl.F, Cl.bot),
  ([⟨false, false, true, true, false⟩, ⟨false, false, true, true, false⟩], Cl.F, Cl.bot),
  ([⟨false, false, true, true, false⟩, ⟨false, false, true, true, false⟩, ⟨false, false, true, true, false⟩, ⟨false, false, true, true, false⟩, ⟨false, false, true, true, false⟩, ⟨false, false, true, true, false⟩], Cl.F, Cl.bot),
  ([⟨false, false, true, true, false⟩, ⟨false, false, true, true, false⟩, ⟨false, false, true, true, false⟩, ⟨false, false, true, true, false⟩, ⟨false, false, true, true, false⟩, ⟨false, false, true, true, false⟩], Cl.F, Cl.bot),
  ([⟨false, false, true, true, false⟩, ⟨false, false, true, true, false⟩, ⟨false, false, true, true, false⟩, ⟨false, false, true, true, false⟩, ⟨false, false, true, true, false⟩, ⟨false, false, true, true, false⟩], Cl.F, Cl.bot),
  ([⟨false, false, true, true, false⟩, ⟨false, false, true, true, false⟩, ⟨false, false, true, true, false⟩], Cl.F, Cl.bot),
  ([clB1], Cl.F, Cl.bot),
  ([⟨true, false, false, false, true⟩, ⟨false, false, true, true, false⟩, ⟨false, false, true, true, false⟩], Cl.F, ⟨true, false, false, false, true⟩),
  ([⟨false, false, true, true, false⟩, ⟨false, false, true, true, false⟩], Cl.F, Cl.bot),
  ([⟨false, false, true, true, false⟩, ⟨false, false, true, true, false⟩], Cl.F, Cl.bot),
  ([⟨false, false, true, true, false⟩, ⟨false, false, true, true, false⟩], Cl.F, Cl.bot),
  ([⟨false, false, true, true, false⟩, ⟨false, false, true, true, false⟩], Cl.F, Cl.bot),
  ([⟨false, false, true, true, false⟩, ⟨false, false, true, true, false⟩], Cl.F, Cl.bot),
  ([⟨false, false, true, true, false⟩, ⟨false, false, true, true, false⟩], Cl.F, Cl.bot),
  ([⟨false, false, true, true, false⟩], Cl.F, Cl.bot),
  ([⟨false, false, true, true, false⟩], Cl.F, Cl.bot)]
abbrev T : TB := tab0.T
instance : Lib T ix 0 p_divisor := ⟨rfl⟩
instance : Lib T ix 1 p_law_cell_at := ⟨rfl⟩
instance : Lib T ix 2 p_law_whole := ⟨rfl⟩
instance : Lib T ix 4 p_law_divisor := ⟨rfl⟩
instance : Lib T ix 5 p_law_is := ⟨rfl⟩
instance : Lib T ix 76 p_law_number_by := ⟨rfl⟩
instance : Lib T ix 6 p_Fraction__init := ⟨rfl⟩
instance : Lib T ix 7 p_Fraction_plus := ⟨rfl⟩
instance : Lib T ix 9 p_Fraction_minus := ⟨rfl⟩
instance : Lib T ix 10 p_Fraction_times := ⟨rfl⟩
instance : Lib T ix 8 p_Fraction_over := ⟨rfl⟩
instance : Lib T ix 13 p_Fraction_under := ⟨rfl⟩
instance : Lib T ix 78 p_Fraction_same := ⟨rfl⟩
instance : Lib T ix 14 p_Fraction_sign := ⟨rfl⟩
instance : Lib T ix 79 p_Fraction_shown := ⟨rfl⟩
instance : Fr T ix := ⟨rfl, rfl, rfl, rfl, rfl, rfl⟩
instance : Exc T 7 [7, 999] [] := ⟨rfl, rfl⟩
instance : Exc T 8 [8, 7, 999] [] := ⟨rfl, rfl⟩
instance : Mth T ix 0 2 7 := ⟨rfl⟩
instance : Mth T ix 0 3 9 := ⟨rfl⟩
instance : Mth T ix 0 4 10 := ⟨rfl⟩
instance : Mth T ix 0 5 8 := ⟨rfl⟩
instance : Mth T ix 0 6 13 := ⟨rfl⟩
instance : Mth T ix 0 7 78 := ⟨rfl⟩
instance : Mth T ix 0 8 14 := ⟨rfl⟩
instance : Mth T ix 0 9 79 := ⟨rfl⟩
end GS.K03

namespace GS.K03
open PySem PySem.Spec PyProof.Rows L2 GS
theorem truthZ {k : Nat} (a b : Bool) : cl T (k + 1) 6 [.bl a, .bl b] = .ok (.bl (decide (a = b))) := by
  rw [cl_eq (df := df6) rfl rfl rfl]
  cases a <;> cases b <;> simp [df6, vIsi, D.ty, isiN, vEq]
/-- a fraction made of two numbers -/
structure Gd (p : Rat) (a b : Int) : Prop where
  e : p = Rat.divInt a b
  p0 : 0 < b
  sa : a.natAbs < 2 ^ 300
  sb : b.natAbs < 2 ^ 300
theorem Gd.bs {p : Rat} {a b : Int} (g : Gd p a b) : bs p ≤ 300 := by rw [g.e]; exact bs_of (by have := g.p0; omega) g.sa g.sb
theorem Gd.mo {p q : Rat} {a b c d : Int} (g : Gd p a b) (h : Gd q c d) : mulOk a d = true ∧ mulOk c b = true ∧ mulOk b d = true ∧ mulOk a c = true ∧ mulOk b c = true :=
  ⟨mulOk_b g.sa h.sb (by omega), mulOk_b h.sa g.sb (by omega), mulOk_b g.sb h.sb (by omega), mulOk_b g.sa h.sa (by omega), mulOk_b g.sb h.sa (by omega)⟩
theorem m600 {a b : Int} (ha : a.natAbs < 2 ^ 300) (hb : b.natAbs < 2 ^ 300) : (a * b).natAbs < 2 ^ 601 := Nat.lt_of_lt_of_le (nat_mul_lt ha hb) (Nat.pow_le_pow_right (by omega) (by omega))
theorem quotZ {p q : Rat} {a b c d : Int} (g : Gd p a b) (h : Gd q c d) : cl T 5 7 [frZ p, frZ q, .int a, .int b, .int c, .int d] = .ok (.bl true) := by
  rw [cl_eq (df := df7) rfl rfl rfl]
  have gb := g.bs
  have hb := h.bs
  obtain ⟨m1, m2, m3, m4, m5⟩ := g.mo h
  have b0 := g.p0
  have d0 := h.p0
  by_cases hc : c = 0
  · subst hc
    have e : q = 0 := by rw [h.e]; simp
    subst e
    have ho := overZ0 (T := T) (x := ix) (k := 0) (p := p) (by omega)
    simp [df7, ho]
  · have hq : q ≠ 0 := by
      intro e
      have := h.e
      rw [e] at this
      have := (Rat.divInt_eq_divInt_iff (n₁ := c) (d₁ := d) (n₂ := 0) (d₂ := 1) (by omega) (by decide)).mp (by rw [← this]; decide +kernel)
      omega
    have ho := overZ (T := T) (x := ix) (k := 0) (p := p) (q := q) (by omega) hq
    have e : p / q = Rat.divInt (a * d) (b * c) := by
      rw [g.e, h.e, Rat.div_def, Rat.inv_divInt, Rat.divInt_mul_divInt]
    have hl := lawis_ok (T := T) (x := ix) (k := 2) e (Int.mul_ne_zero (by omega) hc) (m600 g.sa h.sb) (m600 g.sb h.sa) (by omega)
    simp [df7, ho, hc, m1, m5, hl]
theorem reckZ {p q : Rat} {a b c d : Int} (g : Gd p a b) (h : Gd q c d) : cl T 6 8 [frZ p, frZ q, .int a, .int b, .int c, .int d] = .ok (.bl true) := by
  rw [cl_eq (df := df8) rfl rfl rfl]
  have gb := g.bs
  have hb := h.bs
  obtain ⟨m1, m2, m3, m4, m5⟩ := g.mo h
  have b0 := g.p0
  have d0 := h.p0
  have bd : b * d ≠ 0 := Int.mul_ne_zero (by omega) (by omega)
  have p1 := plusZ (T := T) (x := ix) (k := 1) (p := p) (q := q) (by omega)
  have p2 := minusZ (T := T) (x := ix) (k := 1) (p := p) (q := q) (by omega)
  have p3 := timesZ (T := T) (x := ix) (k := 1) (p := p) (q := q) (by omega)
  have e1 : p + q = Rat.divInt (a * d + c * b) (b * d) := by rw [g.e, h.e, Rat.divInt_add_divInt _ _ (by omega) (by omega)]
  have e2 : p - q = Rat.divInt (a * d - c * b) (b * d) := by rw [g.e, h.e, Rat.divInt_sub_divInt _ _ (by omega) (by omega)]
  have e3 : p * q = Rat.divInt (a * c) (b * d) := by rw [g.e, h.e, Rat.divInt_mul_divInt]
  have pm := pm_lt g.sa h.sb h.sa g.sb
  have w2 := m600 g.sb h.sb
  have l1 := lawis_ok (T := T) (x := ix) (k := 3) e1 bd pm.1 w2 (by omega)
  have l2 := lawis_ok (T := T) (x := ix) (k := 3) e2 bd pm.2 w2 (by omega)
  have l3 := lawis_ok (T := T) (x := ix) (k := 3) e3 bd (m600 g.sa h.sa) w2 (by omega)
  have l4 := lawis_ok (T := T) (x := ix) (k := 3) g.e (by omega) g.sa g.sb (by omega)
  have l5 := lawis_ok (T := T) (x := ix) (k := 3) h.e (by omega) h.sa h.sb (by omega)
  have hq := quotZ g h
  simp [df8, p1, p2, p3, l1, l2, l3, l4, l5, m1, m2, m3, m4, m5, hq]
theorem sgn_of {p : Rat} {a b : Int} (g : Gd p a b) : sgn p = (if 0 < a then 1 else 0) - (if a < 0 then 1 else 0) := by
  have h1 : 0 < p ↔ 0 < a := by
    have := lt_divInt (a := 0) (b := 1) (c := a) (d := b) (by decide) g.p0
    rw [g.e, ← zero_div1, this]; omega
  have h2 : p < 0 ↔ a < 0 := by
    have := lt_divInt (a := a) (b := b) (c := 0) (d := 1) g.p0 (by decide)
    rw [g.e, ← zero_div1, this]; omega
  unfold sgn
  by_cases c1 : 0 < a
  · rw [if_pos (h1.mpr c1), if_pos c1, if_neg (by omega)]; rfl
  · rw [if_neg (fun e => c1 (h1.mp e)), if_neg c1]
    by_cases c2 : a < 0
    · rw [if_pos (h2.mpr c2), if_pos c2]; rfl
    · rw [if_neg (fun e => c2 (h2.mp e)), if_neg c2]; rfl
theorem heldZ {p q : Rat} {a b c d : Int} (g : Gd p a b) (h : Gd q c d) : cl T 6 9 [frZ p, frZ q, .int a, .int b, .int c, .int d] = .ok (.bl true) := by
  rw [cl_eq (df := df9) rfl rfl rfl]
  have gb := g.bs
  have hb := h.bs
  obtain ⟨m1, m2, m3, m4, m5⟩ := g.mo h
  have b0 := g.p0
  have d0 := h.p0
  have u1 := underZ (T := T) (x := ix) (k := 4) (p := p) (q := q) (by omega)
  have u2 := underZ (T := T) (x := ix) (k := 4) (p := p) (q := p) (by omega)
  have s1 := sameZ (T := T) (x := ix) (k := 4) (p := p) (q := q)
  have s2 := sameZ (T := T) (x := ix) (k := 4) (p := p) (q := p)
  have sg := signZ (T := T) (x := ix) (k := 4) (p := p)
  have i1 : (p < q) ↔ (a * d < c * b) := by rw [g.e, h.e]; exact lt_divInt b0 d0
  have i2 : (p = q) ↔ (a * d = c * b) := by rw [g.e, h.e]; exact Rat.divInt_eq_divInt_iff (by omega) (by omega)
  have i3 : ¬ p < p := Rat.lt_irrefl
  have t1 : ∀ b, cl T 5 6 [.bl b, .bl b] = .ok (.bl true) := fun b => by rw [truthZ]; simp
  rw [sgn_of g] at sg
  simp only [i1, i2, i3, decide_false] at u1 u2 s1 s2
  by_cases c1 : 0 < a
  · have c2 : ¬ a < 0 := by omega
    simp [df9, u1, u2, s1, s2, sg, t1, m1, m2, c1, c2]
  · by_cases c2 : a < 0
    · simp [df9, u1, u2, s1, s2, sg, t1, m1, m2, c1, c2]
    · simp [df9, u1, u2, s1, s2, sg, t1, m1, m2, c1, c2]
theorem showZ {p : Rat} {a b : Int} (g : Gd p a b) : cl T 6 10 [frZ p, .int a, .int b] = .ok (.bl true) := by
  rw [cl_eq (df := df10) rfl rfl rfl]
  have gb := g.bs
  have b0 := g.p0
  obtain ⟨e1, e2⟩ := num_of a b (by omega)
  rw [if_neg (by omega), ← g.e] at e1 e2
  have hg0 : Int.gcd a b ≠ 0 := by rw [Ne, Int.gcd_eq_zero_iff]; omega
  have hg1 : Int.gcd a b ≤ b.natAbs := Nat.gcd_le_right a.natAbs (show 0 < b.natAbs by omega)
  have hd : divOk (Int.gcd a b : Int) = true := by
    unfold divOk
    have := log2_of (n := (Int.gcd a b : Int).natAbs) (k := 300) (Nat.lt_of_le_of_lt (by omega) g.sb) (by omega)
    simp only [Bool.and_eq_true, decide_eq_true_eq]
    exact ⟨by omega, by omega⟩
  have d1 : vBopZ .fdiv (.int a) (.int (Int.gcd a b)) = .ok (.int p.num) := by rw [bz_fdiv hd, e1]
  have d2 : vBopZ .fdiv (.int b) (.int (Int.gcd a b)) = .ok (.int p.den) := by rw [bz_fdiv hd, e2]
  have hs := shownZ (T := T) (x := ix) (k := 4) (p := p) (by omega)
  obtain ⟨a1, a2⟩ := numS_bits (bs_num p) (by omega) (bs_pos p)
  obtain ⟨c1, c2⟩ := numS_bits (bs_den' p) (by omega) (bs_pos p)
  have e : (("/" : String) : Str).length = 1 := by decide +kernel
  have l1 : okLen ((numS p.num).length + (("/" : String) : Str).length) = true := line_le (by omega)
  have l2 : okLen ((numS p.num).length + (("/" : String) : Str).length + (numS p.den).length) = true := line_le (by omega)
  have c3 : vBltZ .str [.int p.den] = .ok (.str (numS p.den)) := bl_str c1
  have a3 : vBltZ .str [.int p.num] = .ok (.str (numS p.num)) := bl_str a1
  have hi : (Int.gcd a b : Int) = b ↔ (p.den : Int) = 1 := by
    have hm : (p.den : Int) * (Int.gcd a b : Int) = b := by
      rw [e2, Int.fdiv_eq_ediv_of_nonneg _ (by omega)]
      exact Int.ediv_mul_cancel (Int.gcd_dvd_right ..)
    constructor
    · intro h
      rw [h] at hm
      exact Int.eq_of_mul_eq_mul_right (a := b) (by omega) (by rw [hm, Int.one_mul])
    · intro h
      rw [h, Int.one_mul] at hm; exact hm
  have hg := lawdiv_run (T := T) (x := ix) (k := 4) a b
  unfold shown at hs
  generalize (Int.gcd a b : Int) = G at *
  by_cases h1 : (p.den : Int) = 1
  · have h2 := hi.mpr h1
    rw [if_pos h1] at hs
    rw [h2] at d1
    simp [df10, hg, d1, a3, h2, hs, vIsi, D.ty, isiN]
  · have h2 : ¬ G = b := fun e => h1 (hi.mp e)
    rw [if_neg h1] at hs
    simp [df10, hg, d1, d2, a3, c3, h2, hs, l1, l2, vIsi, D.ty, isiN]
def w0 (c : Int) : Int := 1 + c / 8 % 100000000000000000000
theorem tailZ {p q : Rat} {a b c d w t : Int} {x : D} (g : Gd p a b) (h : Gd q c d) : fin (exZs (ZG T 6) whileV df11_c_5 [some x, some (.int a), some (.int b), some (.int c), some (.int d), some (.int w), some (.int t), some (frZ p), some (frZ q), none]) = .ok (.bl true) := by
  have r1 := reckZ g h
  have r2 := reckZ h g
  have d1 := heldZ g h
  have d2 := heldZ h g
  have s1 := showZ g
  have s2 := showZ h
  unfold df11_c_5
  rw [zs_cons, xsame (xs := List.range 2) (fun (i : Nat) => D.int (i : Int)) ?h1 ?h2, Out.bind_nx]
  case h1 => exact rng1N (n := 2) (by simp) (by omega)
  case h2 =>
    intro i hi
    refine ⟨_, bt_nm, .inl ?_⟩
    simp [df11_c_b4, df11_c_b4_1, df11_c_b4_2, r1, r2, d1, d2]
  simp [df11_c_6, s1, s2]
theorem gd_mk {a b : Int} (h : 0 < b) (ha : a.natAbs < 2 ^ 300) (hb : b.natAbs < 2 ^ 300) : Gd (Rat.divInt a b) a b := ⟨rfl, h, ha, hb⟩
theorem bnd (x : Int) : (numBy x).natAbs ≤ 10 ^ 60 := numBy_le x
theorem mathZ (ns : List Int) (hs : Scr ns) : cl T 7 11 [scrZ ns] = .ok (.bl true) := by
  rw [cl_eq (df := df11) rfl rfl rfl]
  have h0 := numByZ (T := T) (x := ix) (k := 5) (sm_of hs 0)
  have h1 := numByZ (T := T) (x := ix) (k := 5) (sm_of hs 1)
  have h2 := numByZ (T := T) (x := ix) (k := 5) (sm_of hs 2)
  have h3 := numByZ (T := T) (x := ix) (k := 5) (sm_of hs 3)
  generalize e0 : ns.getD 0 0 = c0 at *
  generalize e1 : ns.getD 1 0 = c1 at *
  generalize e2 : ns.getD 2 0 = c2 at *
  generalize e3 : ns.getD 3 0 = c3 at *
  generalize e4 : ns.getD 4 0 = w at *
  have z0 := bnd c0
  have z1 := bnd c1
  have z2 := bnd c2
  have z3 := bnd c3
  generalize numBy c0 = a at *
  generalize numBy c1 = b at *
  generalize numBy c2 = c at *
  generalize numBy c3 = d at *
  have hw1 : 1 ≤ w0 w := by unfold w0; omega
  have hw2 : w0 w ≤ 10 ^ 20 := by unfold w0; omega
  have hb : 0 < 1 + (b.natAbs : Int) := by omega
  have hd : 0 < 1 + (d.natAbs : Int) := by omega
  have lit : (10 : Nat) ^ 60 + 1 < 2 ^ 210 := by decide +kernel
  have la : a.natAbs < 2 ^ 210 := by omega
  have lb : (1 + (b.natAbs : Int)).natAbs < 2 ^ 210 := by omega
  have lc : c.natAbs < 2 ^ 210 := by omega
  have ld : (1 + (d.natAbs : Int)).natAbs < 2 ^ 210 := by omega
  have lw : (w0 w).natAbs < 2 ^ 70 := by have : (10 : Int) ^ 20 < 2 ^ 70 := by decide +kernel
                                         omega
  have up : ∀ {i : Int}, i.natAbs < 2 ^ 210 → i.natAbs < 2 ^ 300 := fun h => Nat.lt_of_lt_of_le h (Nat.pow_le_pow_right (by omega) (by omega))
  have up8 : ∀ {i : Int}, i.natAbs < 2 ^ 300 → i.natAbs < 2 ^ 8000 := fun h => Nat.lt_of_lt_of_le h (Nat.pow_le_pow_right (by omega) (by omega))
  have aw : (a * w0 w).natAbs < 2 ^ 280 := nat_mul_lt la lw
  have bw : ((1 + (b.natAbs : Int)) * w0 w).natAbs < 2 ^ 280 := nat_mul_lt lb lw
  have bw0 : 0 < (1 + (b.natAbs : Int)) * w0 w := Int.mul_pos hb (by omega)
  have lit2 : (2 : Nat) ^ 280 + 10 < 2 ^ 300 := by decide +kernel
  have mo1 : mulOk a (w0 w) = true := mulOk_b la lw (by omega)
  have mo2 : mulOk (1 + (b.natAbs : Int)) (w0 w) = true := mulOk_b lb lw (by omega)
  have hmk : ∀ t b : Int, 0 < b → b.natAbs < 2 ^ 300 → mkZ T 6 0 [.int t, .int b] = .ok (frZ (Rat.divInt t b)) := fun t b h1 h2 => fr_mk (T := T) (x := ix) (k := 3) (by omega) (up8 h2)
  have g1 : Gd (Rat.divInt a (1 + (b.natAbs : Int))) a (1 + (b.natAbs : Int)) := gd_mk hb (up la) (up lb)
  have k1 := hmk a _ hb (up lb)
  by_cases q1 : w % 4 = 1
  · have g2 := gd_mk (a := a * w0 w) bw0 (by omega) (by omega)
    have ht := tailZ (w := w) (t := w0 w) (x := scrZ ns) g1 g2
    have k2 := hmk (a * w0 w) _ bw0 (by omega)
    unfold w0 scrZ at *
    simp [df11, df11_c, df11_c_1, df11_c_2, df11_c_3, df11_c_4, df11_c_b1, e0, e1, e2, e3, e4, h0, h1, h2, h3, q1, mo1, mo2, k1, k2, -List.getD_eq_getElem?_getD]
    exact ht
  · by_cases q2 : w % 4 = 2
    · have g2 := gd_mk (a := a * w0 w + 1 - 2 * (w / 4 % 2)) bw0 (by omega) (by omega)
      have ht := tailZ (w := w) (t := w0 w) (x := scrZ ns) g1 g2
      have k2 := hmk (a * w0 w + 1 - 2 * (w / 4 % 2)) _ bw0 (by omega)
      unfold w0 scrZ at *
      simp [df11, df11_c, df11_c_1, df11_c_2, df11_c_3, df11_c_4, df11_c_b1, df11_c_b2, e0, e1, e2, e3, e4, h0, h1, h2, h3, q1, q2, mo1, mo2, k1, k2, -List.getD_eq_getElem?_getD]
      exact ht
    · by_cases q3 : w % 4 = 3
      · have ht := tailZ (w := w) (t := w0 w) (x := scrZ ns) g1 g1
        have k2 := hmk c _ hd (up ld)
        unfold w0 scrZ at *
        simp [df11, df11_c, df11_c_1, df11_c_2, df11_c_3, df11_c_4, df11_c_b3, e0, e1, e2, e3, e4, h0, h1, h2, h3, q1, q2, q3, k1, k2, -List.getD_eq_getElem?_getD]
        exact ht
      · have g2 := gd_mk (a := c) hd (up lc) (up ld)
        have ht := tailZ (w := w) (t := w0 w) (x := scrZ ns) g1 g2
        have k2 := hmk c _ hd (up ld)
        unfold w0 scrZ at *
        simp [df11, df11_c, df11_c_1, df11_c_2, df11_c_3, df11_c_4, e0, e1, e2, e3, e4, h0, h1, h2, h3, q1, q2, q3, k1, k2, -List.getD_eq_getElem?_getD]
        exact ht
end GS.K03

namespace GS.K03
open PySem PySem.Spec PyProof.Rows L2 GS
def top (i : Nat) : Stmt := PySem.Challenge.pw_gainstream_k03_sums_products_and_order.main.body.getD i (.Pass ⟨0, 0, 0, 0⟩)
def inCls (s : Stmt) (j : Nat) : Stmt := match s with
  | .ClassDef _ _ _ b _ _ _ _ _ _ _ => b.getD j (.Pass ⟨0, 0, 0, 0⟩)
  | _ => .Pass ⟨0, 0, 0, 0⟩
def dd0 : He.DefD := ⟨("divisor", none), "divisor", "divisor", defArgs (top 4), defBody (top 4), defScope (top 4), [], []⟩
def nn0 : List Str := ["one", "other", "rest"]
def pp0 : List Str := ["one", "other"]
def dd1 : He.DefD := ⟨("_law_cell_at", none), "_law_cell_at", "_law_cell_at", defArgs (top 7), defBody (top 7), defScope (top 7), [], []⟩
def nn1 : List Str := ["_law_script", "_law_k"]
def pp1 : List Str := ["_law_script", "_law_k"]
def dd2 : He.DefD := ⟨("_law_whole", none), "_law_whole", "_law_whole", defArgs (top 8), defBody (top 8), defScope (top 8), [], []⟩
def nn2 : List Str := ["_law_found"]
def pp2 : List Str := ["_law_found"]
def dd3 : He.DefD := ⟨("_law_divisor", none), "_law_divisor", "_law_divisor", defArgs (top 9), defBody (top 9), defScope (top 9), [], []⟩
def nn3 : List Str := ["_law_one", "_law_other", "_law_rest"]
def pp3 : List Str := ["_law_one", "_law_other"]
def dd4 : He.DefD := ⟨("_law_is", none), "_law_is", "_law_is", defArgs (top 10), defBody (top 10), defScope (top 10), [], []⟩
def nn4 : List Str := ["_law_found", "_law_top", "_law_bottom"]
def pp4 : List Str := ["_law_found", "_law_top", "_law_bottom"]
def dd5 : He.DefD := ⟨("_law_number_by", none), "_law_number_by", "_law_number_by", defArgs (top 11), defBody (top 11), defScope (top 11), [], []⟩
def nn5 : List Str := ["_law_cell"]
def pp5 : List Str := ["_law_cell"]
def dd6 : He.DefD := ⟨("_law_truth", none), "_law_truth", "_law_truth", defArgs (top 12), defBody (top 12), defScope (top 12), [], []⟩
def nn6 : List Str := ["_law_found", "_law_due"]
def pp6 : List Str := ["_law_found", "_law_due"]
def dd7 : He.DefD := ⟨("_law_quotient_is", none), "_law_quotient_is", "_law_quotient_is", defArgs (top 13), defBody (top 13), defScope (top 13), [], []⟩
def nn7 : List Str := ["_law_one", "_law_other", "_law_a", "_law_b", "_law_c", "_law_d", "_law_refused", "_law_found"]
def pp7 : List Str := ["_law_one", "_law_other", "_law_a", "_law_b", "_law_c", "_law_d"]
def dd8 : He.DefD := ⟨("_law_reckoned", none), "_law_reckoned", "_law_reckoned", defArgs (top 14), defBody (top 14), defScope (top 14), [], []⟩
def nn8 : List Str := ["_law_one", "_law_other", "_law_a", "_law_b", "_law_c", "_law_d"]
def pp8 : List Str := ["_law_one", "_law_other", "_law_a", "_law_b", "_law_c", "_law_d"]
def dd9 : He.DefD := ⟨("_law_held", none), "_law_held", "_law_held", defArgs (top 15), defBody (top 15), defScope (top 15), [], []⟩
def nn9 : List Str := ["_law_one", "_law_other", "_law_a", "_law_b", "_law_c", "_law_d", "_law_found"]
def pp9 : List Str := ["_law_one", "_law_other", "_law_a", "_law_b", "_law_c", "_law_d"]
def dd10 : He.DefD := ⟨("_law_shows", none), "_law_shows", "_law_shows", defArgs (top 16), defBody (top 16), defScope (top 16), [], []⟩
def nn10 : List Str := ["_law_one", "_law_a", "_law_b", "_law_by", "_law_due", "_law_found"]
def pp10 : List Str := ["_law_one", "_law_a", "_law_b"]
def dd11 : He.DefD := ⟨("law", none), "law", "law", defArgs (top 17), defBody (top 17), defScope (top 17), [], []⟩
def nn11 : List Str := ["_law_script", "_law_a", "_law_b", "_law_c", "_law_d", "_law_way", "_law_times", "_law_one", "_law_other", "_law_k"]
def pp11 : List Str := ["_law_script"]
def dd12 : He.DefD := ⟨("Fraction", some "__init__"), "__init__", "Fraction.__init__", defArgs (inCls (top 5) 0), defBody (inCls (top 5) 0), defScope (inCls (top 5) 0), [.int 1], []⟩
def nn12 : List Str := ["self", "top", "bottom", "by"]
def pp12 : List Str := ["self", "top", "bottom"]
def dd13 : He.DefD := ⟨("Fraction", some "plus"), "plus", "Fraction.plus", defArgs (inCls (top 5) 1), defBody (inCls (top 5) 1), defScope (inCls (top 5) 1), [], []⟩
def nn13 : List Str := ["self", "other"]
def pp13 : List Str := ["self", "other"]
def dd14 : He.DefD := ⟨("Fraction", some "minus"), "minus", "Fraction.minus", defArgs (inCls (top 5) 2), defBody (inCls (top 5) 2), defScope (inCls (top 5) 2), [], []⟩
def nn14 : List Str := ["self", "other"]
def pp14 : List Str := ["self", "other"]
def dd15 : He.DefD := ⟨("Fraction", some "times"), "times", "Fraction.times", defArgs (inCls (top 5) 3), defBody (inCls (top 5) 3), defScope (inCls (top 5) 3), [], []⟩
def nn15 : List Str := ["self", "other"]
def pp15 : List Str := ["self", "other"]
def dd16 : He.DefD := ⟨("Fraction", some "over"), "over", "Fraction.over", defArgs (inCls (top 5) 4), defBody (inCls (top 5) 4), defScope (inCls (top 5) 4), [], []⟩
def nn16 : List Str := ["self", "other"]
def pp16 : List Str := ["self", "other"]
def dd17 : He.DefD := ⟨("Fraction", some "under"), "under", "Fraction.under", defArgs (inCls (top 5) 5), defBody (inCls (top 5) 5), defScope (inCls (top 5) 5), [], []⟩
def nn17 : List Str := ["self", "other"]
def pp17 : List Str := ["self", "other"]
def dd18 : He.DefD := ⟨("Fraction", some "same"), "same", "Fraction.same", defArgs (inCls (top 5) 6), defBody (inCls (top 5) 6), defScope (inCls (top 5) 6), [], []⟩
def nn18 : List Str := ["self", "other"]
def pp18 : List Str := ["self", "other"]
def dd19 : He.DefD := ⟨("Fraction", some "sign"), "sign", "Fraction.sign", defArgs (inCls (top 5) 7), defBody (inCls (top 5) 7), defScope (inCls (top 5) 7), [], []⟩
def nn19 : List Str := ["self"]
def pp19 : List Str := ["self"]
def dd20 : He.DefD := ⟨("Fraction", some "shown"), "shown", "Fraction.shown", defArgs (inCls (top 5) 8), defBody (inCls (top 5) 8), defScope (inCls (top 5) 8), [], []⟩
def nn20 : List Str := ["self"]
def pp20 : List Str := ["self"]
def tab : TC := ⟨[dd0, dd1, dd2, dd3, dd4, dd5, dd6, dd7, dd8, dd9, dd10, dd11, dd12, dd13, dd14, dd15, dd16, dd17, dd18, dd19, dd20], [df0, df1, df2, df3, df4, df5, df6, df7, df8, df9, df10, df11, df12, df13, df14, df15, df16, df17, df18, df19, df20], [nn0, nn1, nn2, nn3, nn4, nn5, nn6, nn7, nn8, nn9, nn10, nn11, nn12, nn13, nn14, nn15, nn16, nn17, nn18, nn19, nn20], [pp0, pp1, pp2, pp3, pp4, pp5, pp6, pp7, pp8, pp9, pp10, pp11, pp12, pp13, pp14, pp15, pp16, pp17, pp18, pp19, pp20], 12, ((["top", "bottom", "plus", "minus", "times", "over", "under", "same", "sign", "shown", "name", "start", "goal", "high", "cost", "rate", "loss", "stays", "gain", "out", "at_turn", "kept_wants", "kept_ways", "names", "want", "way", "all_ways", "wanting", "place", "bound"] : List Str) ++ (["lacking", "wants", "ways", "kept", "prices", "limits", "net", "plan", "say", "looked", "changed", "planned", "told", "__init__"] : List Str)), ["Fraction", "", "", "", "", "", "", "GainError", "NoNumber", "", "", "", "", "", "", "", "", "", "", "", ""], [(0, 2, 13), (0, 3, 14), (0, 4, 15), (0, 5, 16), (0, 6, 17), (0, 7, 18), (0, 8, 19), (0, 9, 20)], [(0, 12)], [(0, 0), (0, 1)], [[0], [], [], [], [], [], [], [7, 999], [8, 7, 999], [], [], [], [], [], [], [], [], [], [], [], []], [0], [("", .non), ("", .non), ("", .non), ("", .non), ("", .non), ("", .non)], [[], [], [], [], [], [], [], [], [], [], [], [], [], [], [], [], [], [], [], [], []], []⟩
theorem okAt0 : tab.okAt 0 = true := by decide +kernel
theorem agAt0 : tab.agF sgs 0 = true := by decide +kernel
theorem okAt1 : tab.okAt 1 = true := by decide +kernel
theorem agAt1 : tab.agF sgs 1 = true := by decide +kernel
theorem okAt2 : tab.okAt 2 = true := by decide +kernel
theorem agAt2 : tab.agF sgs 2 = true := by decide +kernel
theorem okAt3 : tab.okAt 3 = true := by decide +kernel
theorem agAt3 : tab.agF sgs 3 = true := by decide +kernel
theorem okAt4 : tab.okAt 4 = true := by decide +kernel
theorem agAt4 : tab.agF sgs 4 = true := by decide +kernel
theorem okAt5 : tab.okAt 5 = true := by decide +kernel
theorem agAt5 : tab.agF sgs 5 = true := by decide +kernel
theorem okAt6 : tab.okAt 6 = true := by decide +kernel
theorem agAt6 : tab.agF sgs 6 = true := by decide +kernel
theorem okAt7 : tab.okAt 7 = true := by decide +kernel
theorem agAt7 : tab.agF sgs 7 = true := by decide +kernel
theorem okAt8 : tab.okAt 8 = true := by decide +kernel
theorem agAt8 : tab.agF sgs 8 = true := by decide +kernel
theorem okAt9 : tab.okAt 9 = true := by decide +kernel
theorem agAt9 : tab.agF sgs 9 = true := by decide +kernel
theorem okAt10 : tab.okAt 10 = true := by decide +kernel
theorem agAt10 : tab.agF sgs 10 = true := by decide +kernel
theorem okAt11 : tab.okAt 11 = true := by decide +kernel
theorem agAt11 : tab.agF sgs 11 = true := by decide +kernel
theorem okAt12 : tab.okAt 12 = true := by decide +kernel
theorem agAt12 : tab.agF sgs 12 = true := by decide +kernel
theorem okAt13 : tab.okAt 13 = true := by decide +kernel
theorem agAt13 : tab.agF sgs 13 = true := by decide +kernel
theorem okAt14 : tab.okAt 14 = true := by decide +kernel
theorem agAt14 : tab.agF sgs 14 = true := by decide +kernel
theorem okAt15 : tab.okAt 15 = true := by decide +kernel
theorem agAt15 : tab.agF sgs 15 = true := by decide +kernel
theorem okAt16 : tab.okAt 16 = true := by decide +kernel
theorem agAt16 : tab.agF sgs 16 = true := by decide +kernel
theorem okAt17 : tab.okAt 17 = true := by decide +kernel
theorem agAt17 : tab.agF sgs 17 = true := by decide +kernel
theorem okAt18 : tab.okAt 18 = true := by decide +kernel
theorem agAt18 : tab.agF sgs 18 = true := by decide +kernel
theorem okAt19 : tab.okAt 19 = true := by decide +kernel
theorem agAt19 : tab.agF sgs 19 = true := by decide +kernel
theorem okAt20 : tab.okAt 20 = true := by decide +kernel
theorem agAt20 : tab.agF sgs 20 = true := by decide +kernel
theorem okAllN : ∀ f, f < 21 → tab.okAt f = true := lt_allS (lt_allS (lt_allS (lt_allS (lt_allS (lt_allS (lt_allS (lt_allS (lt_allS (lt_allS (lt_allS (lt_allS (lt_allS (lt_allS (lt_allS (lt_allS (lt_allS (lt_allS (lt_allS (lt_allS (lt_allS (lt_all0) okAt0) okAt1) okAt2) okAt3) okAt4) okAt5) okAt6) okAt7) okAt8) okAt9) okAt10) okAt11) okAt12) okAt13) okAt14) okAt15) okAt16) okAt17) okAt18) okAt19) okAt20
theorem okAll : ∀ f, f < tab.ds.length → tab.okAt f = true := okAllN
theorem agAllN : ∀ f, f < 21 → tab.agF sgs f = true := lt_allS (lt_allS (lt_allS (lt_allS (lt_allS (lt_allS (lt_allS (lt_allS (lt_allS (lt_allS (lt_allS (lt_allS (lt_allS (lt_allS (lt_allS (lt_allS (lt_allS (lt_allS (lt_allS (lt_allS (lt_allS (lt_all0) agAt0) agAt1) agAt2) agAt3) agAt4) agAt5) agAt6) agAt7) agAt8) agAt9) agAt10) agAt11) agAt12) agAt13) agAt14) agAt15) agAt16) agAt17) agAt18) agAt19) agAt20
theorem agAll : ∀ f, f < tab.dfs.length → tab.agF sgs f = true := agAllN
theorem agM : tab.agM sgs = true := by decide +kernel
theorem binds {K : PySem.W.Frag} : ∀ (f : Nat) (d : He.DefD) (ps : List Str), tab.ds[f]? = some d → tab.pss[f]? = some ps → ∀ fd, FunD K d.name d.qual d.params d.body d.scope (d.dvs K) [] (He.fAd K d.at_) fd → ∀ j, j ≤ (d.dvs K).length → ∃ ds, Vals ((d.dvs K).drop j) ds ∧ Binds K fd ps ds := fun f d ps hd hp => match f, hd, hp with
  | 0, hd, hp => by
    cases hd; cases hp
    intro fd FD j hj
    exact ⟨[], by simp [He.DefD.dvs, dd0]; exact .nil, FD.bindsN fun _ _ _ _ _ _ us hl => match us, hl with | [_, _], _ => rfl⟩
  | 1, hd, hp => by
    cases hd; cases hp
    intro fd FD j hj
    exact ⟨[], by simp [He.DefD.dvs, dd1]; exact .nil, FD.bindsN fun _ _ _ _ _ _ us hl => match us, hl with | [_, _], _ => rfl⟩
  | 2, hd, hp => by
    cases hd; cases hp
    intro fd FD j hj
    exact ⟨[], by simp [He.DefD.dvs, dd2]; exact .nil, FD.bindsN fun _ _ _ _ _ _ us hl => match us, hl with | [_], _ => rfl⟩
  | 3, hd, hp => by
    cases hd; cases hp
    intro fd FD j hj
    exact ⟨[], by simp [He.DefD.dvs, dd3]; exact .nil, FD.bindsN fun _ _ _ _ _ _ us hl => match us, hl with | [_, _], _ => rfl⟩
  | 4, hd, hp => by
    cases hd; cases hp
    intro fd FD j hj
    exact ⟨[], by simp [He.DefD.dvs, dd4]; exact .nil, FD.bindsN fun _ _ _ _ _ _ us hl => match us, hl with | [_, _, _], _ => rfl⟩
  | 5, hd, hp => by
    cases hd; cases hp
    intro fd FD j hj
    exact ⟨[], by simp [He.DefD.dvs, dd5]; exact .nil, FD.bindsN fun _ _ _ _ _ _ us hl => match us, hl with | [_], _ => rfl⟩
  | 6, hd, hp => by
    cases hd; cases hp
    intro fd FD j hj
    exact ⟨[], by simp [He.DefD.dvs, dd6]; exact .nil, FD.bindsN fun _ _ _ _ _ _ us hl => match us, hl with | [_, _], _ => rfl⟩
  | 7, hd, hp => by
    cases hd; cases hp
    intro fd FD j hj
    exact ⟨[], by simp [He.DefD.dvs, dd7]; exact .nil, FD.bindsN fun _ _ _ _ _ _ us hl => match us, hl with | [_, _, _, _, _, _], _ => rfl⟩
  | 8, hd, hp => by
    cases hd; cases hp
    intro fd FD j hj
    exact ⟨[], by simp [He.DefD.dvs, dd8]; exact .nil, FD.bindsN fun _ _ _ _ _ _ us hl => match us, hl with | [_, _, _, _, _, _], _ => rfl⟩
  | 9, hd, hp => by
    cases hd; cases hp
    intro fd FD j hj
    exact ⟨[], by simp [He.DefD.dvs, dd9]; exact .nil, FD.bindsN fun _ _ _ _ _ _ us hl => match us, hl with | [_, _, _, _, _, _], _ => rfl⟩
  | 10, hd, hp => by
    cases hd; cases hp
    intro fd FD j hj
    exact ⟨[], by simp [He.DefD.dvs, dd10]; exact .nil, FD.bindsN fun _ _ _ _ _ _ us hl => match us, hl with | [_, _, _], _ => rfl⟩
  | 11, hd, hp => by
    cases hd; cases hp
    intro fd FD j hj
    exact ⟨[], by simp [He.DefD.dvs, dd11]; exact .nil, FD.bindsN fun _ _ _ _ _ _ us hl => match us, hl with | [_], _ => rfl⟩
  | 12, hd, hp => by
    cases hd; cases hp
    intro fd FD j hj
    have hj : j < 2 := Nat.lt_succ_of_le hj
    match j, hj with
    | 0, _ => exact FunD.binds1 FD 2 0 (by simp [He.DefD.dvs, dd12]) rfl fun _ _ _ _ _ _ _ us its hl hi => match us, hl, its, hi with | [_, _], _, [_], _ => ⟨_, rfl, rfl⟩
    | 1, _ => exact FunD.binds1 FD 3 1 (by simp [He.DefD.dvs, dd12]) rfl fun _ _ _ _ _ _ _ us its hl hi => match us, hl, its, hi with | [_, _, _], _, [_], _ => ⟨_, rfl, rfl⟩
  | 13, hd, hp => by
    cases hd; cases hp
    intro fd FD j hj
    exact ⟨[], by simp [He.DefD.dvs, dd13]; exact .nil, FD.bindsN fun _ _ _ _ _ _ us hl => match us, hl with | [_, _], _ => rfl⟩
  | 14, hd, hp => by
    cases hd; cases hp
    intro fd FD j hj
    exact ⟨[], by simp [He.DefD.dvs, dd14]; exact .nil, FD.bindsN fun _ _ _ _ _ _ us hl => match us, hl with | [_, _], _ => rfl⟩
  | 15, hd, hp => by
    cases hd; cases hp
    intro fd FD j hj
    exact ⟨[], by simp [He.DefD.dvs, dd15]; exact .nil, FD.bindsN fun _ _ _ _ _ _ us hl => match us, hl with | [_, _], _ => rfl⟩
  | 16, hd, hp => by
    cases hd; cases hp
    intro fd FD j hj
    exact ⟨[], by simp [He.DefD.dvs, dd16]; exact .nil, FD.bindsN fun _ _ _ _ _ _ us hl => match us, hl with | [_, _], _ => rfl⟩
  | 17, hd, hp => by
    cases hd; cases hp
    intro fd FD j hj
    exact ⟨[], by simp [He.DefD.dvs, dd17]; exact .nil, FD.bindsN fun _ _ _ _ _ _ us hl => match us, hl with | [_, _], _ => rfl⟩
  | 18, hd, hp => by
    cases hd; cases hp
    intro fd FD j hj
    exact ⟨[], by simp [He.DefD.dvs, dd18]; exact .nil, FD.bindsN fun _ _ _ _ _ _ us hl => match us, hl with | [_, _], _ => rfl⟩
  | 19, hd, hp => by
    cases hd; cases hp
    intro fd FD j hj
    exact ⟨[], by simp [He.DefD.dvs, dd19]; exact .nil, FD.bindsN fun _ _ _ _ _ _ us hl => match us, hl with | [_], _ => rfl⟩
  | 20, hd, hp => by
    cases hd; cases hp
    intro fd FD j hj
    exact ⟨[], by simp [He.DefD.dvs, dd20]; exact .nil, FD.bindsN fun _ _ _ _ _ _ us hl => match us, hl with | [_], _ => rfl⟩
  | _ + 21, hd, _ => by cases hd
theorem dfls {K : PySem.W.Frag} : ∀ (f : Nat) (d : He.DefD) (df : Df), tab.ds[f]? = some d → tab.dfs[f]? = some df → df.dfl.map D.v = (d.dvs K).map some := fun f d df hd hf => match f, hd, hf with
  | 0, hd, hf => by cases hd; cases hf; rfl
  | 1, hd, hf => by cases hd; cases hf; rfl
  | 2, hd, hf => by cases hd; cases hf; rfl
  | 3, hd, hf => by cases hd; cases hf; rfl
  | 4, hd, hf => by cases hd; cases hf; rfl
  | 5, hd, hf => by cases hd; cases hf; rfl
  | 6, hd, hf => by cases hd; cases hf; rfl
  | 7, hd, hf => by cases hd; cases hf; rfl
  | 8, hd, hf => by cases hd; cases hf; rfl
  | 9, hd, hf => by cases hd; cases hf; rfl
  | 10, hd, hf => by cases hd; cases hf; rfl
  | 11, hd, hf => by cases hd; cases hf; rfl
  | 12, hd, hf => by cases hd; cases hf; rfl
  | 13, hd, hf => by cases hd; cases hf; rfl
  | 14, hd, hf => by cases hd; cases hf; rfl
  | 15, hd, hf => by cases hd; cases hf; rfl
  | 16, hd, hf => by cases hd; cases hf; rfl
  | 17, hd, hf => by cases hd; cases hf; rfl
  | 18, hd, hf => by cases hd; cases hf; rfl
  | 19, hd, hf => by cases hd; cases hf; rfl
  | 20, hd, hf => by cases hd; cases hf; rfl
  | _ + 21, hd, _ => by cases hd
def loose : List Str := ["__name__", "GainError", "NoNumber", "divisor", "Fraction", "_law_cell_at", "_law_whole", "_law_divisor", "_law_is", "_law_number_by", "_law_truth", "_law_quotient_is", "_law_reckoned", "_law_held", "_law_shows"]
abbrev R : PySem.W.OpenRow := PySem.W.OpenLaw.row PySem.Challenge.rw_gainstream_k03_sums_products_and_order
abbrev hk : PySem.W.Hook := hookX 4 tab.xb tab.fa tab.ds
def ob (s : PySem.W.SharedT) : Bool × He.AlD := obsXG 4 tab.xb tab.fa tab.ds (HandSHeadRun.getT s)
theorem ob_eq (s : PySem.W.SharedT) : ob s = hk.obs s.abs := obsXG_eq (HandSHeadRun.getT_eq s)
theorem run (w : World) : HandSHeadRun.RunEq R (PySem.W.view R.prog [17]) hk ob 60000 loose w := by
  intro os
  kernel_rfl
theorem math (ns : List Int) (hs : Scr ns) : ((runs tab.T whileV (6 + 1)).1 11 [scriptD ns]).val = .ok (.bl true) := law_ofZ (lw := 11) agAll agM rfl (mathZ ns hs)
theorem facts {P : Program} {w : World} {K : PySem.W.Frag} {h : Heap} {mg : Str → Option Value} {f : Addr} (X : K.In h) (G : h.Ns mainGlobals mg) (hfa : mg ("law" : Str) = some (.ref f)) (hx : tab.xb K = true) (c : He.SaysD tab.fa tab.ds K) :
    ∃ (fd : FuncData) (sp : Sp), (∀ (s : Shared) (v : Value), BindsTo s fd ⟨[v], []⟩ [("_law_script", v)]) ∧ (∀ (H : Hp) (a : Addr) (ns : List Int), Scr ns → Only H → SqL K H a (ns.map V.int) → sp [.ref a] H (fun v _ => v = .bl true) fun _ _ _ => False) ∧
      ∀ base : Heap, K.In base → base.Ns mainGlobals mg → FnOk P w K mg base (L2.CX P w) 7 f fd ["_law_script"] sp := by
  obtain ⟨fd, FD⟩ := c.def_ 11 (d := dd11) rfl
  have e := hfa.symm.trans (He.glo_ok X G (c.fact 31 (f := .glo "law") rfl))
  cases e
  have b := FunD.bindsA (ps := ["_law_script"]) FD fun _ _ _ _ _ _ us hl => match us, hl with | [_], _ => rfl
  refine ⟨fd, lawSp (tab.n K) tab.T 6 11, fun s v => b s [v] rfl, fun H a ns hs hO hS => law_sp (n := tab.n K) math hs hO hS, fun base _ _ => ?_⟩
  have M := mo_cls tab (base := base) X G hx c rfl (by decide) okAll (by decide +kernel) (by decide +kernel) (by decide) (by decide) dfls binds
  exact law_fn (lw := 11) (df := df11) M rfl rfl rfl FD
end GS.K03
open PySem PySem.W PySem.Calls PyProof.Rows
theorem PySem.Challenge.cw_gainstream_k03_sums_products_and_order_holds : PySem.Challenge.rw_gainstream_k03_sums_products_and_order.Holds := by
  w_on; o_law
  refine HandSHeadRun.head_any (r := OpenLaw.row PySem.Challenge.rw_gainstream_k03_sums_products_and_order) (q := view (OpenLaw.row PySem.Challenge.rw_gainstream_k03_sums_products_and_order).prog [17]) (H := GS.K03.hk) (ob := GS.K03.ob) (M := 60000) (loose := GS.K03.loose) (d := HandSHeadRun.topDef (OpenLaw.row PySem.Challenge.rw_gainstream_k03_sums_products_and_order).prog 17) (kwd := []) GS.K03.ob_eq
    (by kernel_rfl) (fun s => by kernel_rfl) GS.K03.run (by kernel_rfl) (by kernel_rfl) (by kernel_rfl) (by rfl) (by first | assumption | decide +kernel) (by decide +kernel) ⟨rfl, rfl, rfl, rfl, rfl, by decide +kernel⟩ ?hw ?hc
  case hw => w_witness2
  case hc =>
    refine GS.walk_ofG (l := PySem.Challenge.rw_gainstream_k03_sums_products_and_order) (k := 7) (x := "_law_script") rfl (by kernel_rfl) ⟨rfl, by decide, by decide⟩ ?_
    intro w mg fa h Y G hmg0
    obtain ⟨K, KX, hx, c⟩ := Y
    have hmg : mg ("law" : PySem.Str) = some (.ref fa) := by
      have e : (HandSHeadRun.topDef (OpenLaw.row PySem.Challenge.rw_gainstream_k03_sums_products_and_order).prog 17).name = ("law" : PySem.Str) := by kernel_rfl
      rw [← e]
      exact hmg0
    obtain ⟨fd, sp, hb, hs, hF⟩ := GS.K03.facts (P := (PySem.Challenge.rw_gainstream_k03_sums_products_and_order).prog) (w := w) KX G hmg hx c
    exact ⟨K, fd, sp, KX, hb, hs, hF⟩

