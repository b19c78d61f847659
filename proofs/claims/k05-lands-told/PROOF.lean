import PyProof.Rows.All
import Wide.All
import OpenK.AllK
import Wide.FinOn
import HandS.ForMost
import HandS.Walk
import HandS.Flow
import HandS.Style
import HandS.IsInst
import HandS.Exc
import HandS.Defaults
import HandS.Strs
import HandS.Conv
import HandS.Codes
import HandS.HeadWalk
import HandS.HeadHook3
import HandS.HeadHook4
import HandS.Head2
import HandS.Wide
import HandS.Zip
import HandS.Rev
import HandS.SortOrd
import HandS.TupAny
import HandS.TupMul
import HandS.Deep
import HandS.StrMore
import HandS.TryOnly
import HandS.CallSlots
import HandS.ExcOwn
import PyProof.Draws
import HandS.Zip0
import HandS.RaiseMore
import HandS.Replace
import HandS.Small
import HandS.More
import HandS.TupSets
import PyProof.Rows.SortShellAny
import HandS.SortRule
import KE.KSortTup
import HandS.WordsDict
import PySem.Challenge.RW_wordlines_k05_lands_told
import HandS.HeadEnd
set_option Elab.async false
set_option linter.all false
set_option maxRecDepth 100000
set_option maxHeartbeats 4000000
namespace Mi
open PySem L2

/-! ### data -/
/-- data by value -/
inductive D where
  | non | bl (b : Bool) | int (i : Int) | str (s : Str)
  | tup (xs : List D) | lst (xs : List D) | dct (kvs : List (Key × D)) | dcT (kvs : List (List Key × D)) | set (xs : List D)
  | obj (n : Nat) | glb (x : Str) | exc (c : Str) (fs : List (Str × D)) | ty (n : String) | scr (xs : List D)
  deriving Inhabited

/-- how data stand: what is read of a list or tuple, of a dict, of the script; where the instances stand -/
structure Rp where
  sq : Addr → HO → Prop
  dc : Addr → HO → Prop
  sc : Addr → List V → Prop
  ga : Str → Addr
  mu : Nat → Addr
  N : Nat

section rep
variable (r : Rp)
mutual
def Vx : D → V → Prop
  | .non, v => v = .non
  | .bl b, v => v = .bl b
  | .int i, v => v = .int i
  | .str s, v => v = .str s
  | .tup ds, v => ∃ a xs, v = .ref a ∧ r.sq a (.tup xs) ∧ VxL ds xs
  | .lst ds, v => ∃ a xs, v = .ref a ∧ r.sq a (.lst xs) ∧ VxL ds xs
  | .dct kvs, v => ∃ a kv, v = .ref a ∧ r.dc a (.dK kv) ∧ VxD kvs kv
  | .dcT kvs, v => ∃ a kv, v = .ref a ∧ r.dc a (.dT kv) ∧ VxT kvs kv
  | .set _, _ => False
  | .obj n, v => n < r.N ∧ v = .ref (r.mu n)
  | .glb x, v => v = .ref (r.ga x)
  | .exc _ _, _ => False
  | .ty n, v => v = .ty n
  | .scr ds, v => ∃ a xs, v = .ref a ∧ r.sc a xs ∧ VxL ds xs
def VxL : List D → List V → Prop
  | [], vs => vs = []
  | d :: ds, vs => ∃ v t, vs = v :: t ∧ Vx d v ∧ VxL ds t
def VxD : List (Key × D) → List (Key × V) → Prop
  | [], kv => kv = []
  | (k, d) :: q, kv => ∃ v t, kv = (k, v) :: t ∧ Vx d v ∧ VxD q t
def VxT : List (List Key × D) → List (List Key × V) → Prop
  | [], kv => kv = []
  | (k, d) :: q, kv => ∃ v t, kv = (k, v) :: t ∧ Vx d v ∧ VxT q t
end
end rep
structure Rp.Le (r r' : Rp) : Prop where
  sq : ∀ a o, r.sq a o → r'.sq a o
  dc : ∀ a o, r.dc a o → r'.dc a o
  sc : ∀ a xs, r.sc a xs → r'.sc a xs
  ga : r'.ga = r.ga
  le : r.N ≤ r'.N
  mu : ∀ n, n < r.N → r'.mu n = r.mu n
section
variable {r r' : Rp} (L : r.Le r')
include L
mutual
theorem Vx.mono : ∀ (d : D) (v : V), Vx r d v → Vx r' d v
  | .non, _, h => h
  | .bl _, _, h => h
  | .int _, _, h => h
  | .str _, _, h => h
  | .tup ds, _, ⟨a, xs, e, q, t⟩ => ⟨a, xs, e, L.sq _ _ q, VxL.mono ds xs t⟩
  | .lst ds, _, ⟨a, xs, e, q, t⟩ => ⟨a, xs, e, L.sq _ _ q, VxL.mono ds xs t⟩
  | .dct kvs, _, ⟨a, kv, e, q, t⟩ => ⟨a, kv, e, L.dc _ _ q, VxD.mono kvs kv t⟩
  | .dcT kvs, _, ⟨a, kv, e, q, t⟩ => ⟨a, kv, e, L.dc _ _ q, VxT.mono kvs kv t⟩
  | .set _, _, h => h.elim
  | .obj n, _, ⟨h, e⟩ => ⟨Nat.lt_of_lt_of_le h L.le, by rw [e, L.mu n h]⟩
  | .glb x, v, h => by
    show v = .ref (r'.ga x)
    rw [L.ga]
    exact h
  | .exc _ _, _, h => h.elim
  | .ty _, _, h => h
  | .scr ds, _, ⟨a, xs, e, q, t⟩ => ⟨a, xs, e, L.sc _ _ q, VxL.mono ds xs t⟩
theorem VxL.mono : ∀ (ds : List D) (vs : List V), VxL r ds vs → VxL r' ds vs
  | [], _, h => h
  | d :: ds, _, ⟨v, t, e, h, g⟩ => ⟨v, t, e, Vx.mono d v h, VxL.mono ds t g⟩
theorem VxD.mono : ∀ (ds : List (Key × D)) (vs : List (Key × V)), VxD r ds vs → VxD r' ds vs
  | [], _, h => h
  | (_, d) :: ds, _, ⟨v, t, e, h, g⟩ => ⟨v, t, e, Vx.mono d v h, VxD.mono ds t g⟩
theorem VxT.mono : ∀ (ds : List (List Key × D)) (vs : List (List Key × V)), VxT r ds vs → VxT r' ds vs
  | [], _, h => h
  | (_, d) :: ds, _, ⟨v, t, e, h, g⟩ => ⟨v, t, e, Vx.mono d v h, VxT.mono ds t g⟩
end
end
theorem VxL.length {r : Rp} : ∀ {ds : List D} {vs : List V}, VxL r ds vs → vs.length = ds.length
  | [], _, h => by rw [show _ = [] from h] <;> rfl
  | d :: ds, _, ⟨v, t, e, h, g⟩ => by rw [e, List.length_cons, List.length_cons, VxL.length g]
theorem VxL.get {r : Rp} : ∀ {ds : List D} {vs : List V} {i : Nat} {d : D}, VxL r ds vs → ds[i]? = some d → ∃ v, vs[i]? = some v ∧ Vx r d v
  | [], _, _, _, _, e => by cases e
  | d :: ds, _, 0, _, ⟨v, t, e, h, g⟩, z => by
    cases z
    exact ⟨v, by rw [e] <;> rfl, h⟩
  | d :: ds, _, i + 1, _, ⟨v, t, e, h, g⟩, z => by
    obtain ⟨u, h1, h2⟩ := VxL.get (i := i) g z
    exact ⟨u, by rw [e] <;> exact h1, h2⟩
theorem VxL.append {r : Rp} : ∀ {ds es : List D} {vs us : List V}, VxL r ds vs → VxL r es us → VxL r (ds ++ es) (vs ++ us)
  | [], es, _, us, h, g => by
    rw [show _ = [] from h]
    exact g
  | d :: ds, es, _, us, ⟨v, t, e, h, q⟩, g => ⟨v, t ++ us, by rw [e] <;> rfl, h, VxL.append q g⟩
theorem VxL.take {r : Rp} : ∀ {ds : List D} {vs : List V} (n : Nat), VxL r ds vs → VxL r (ds.take n) (vs.take n)
  | _, _, 0, _ => rfl
  | [], _, n + 1, h => by
    rw [show _ = [] from h]
    rfl
  | d :: ds, _, n + 1, ⟨v, t, e, h, q⟩ => ⟨v, t.take n, by rw [e] <;> rfl, h, VxL.take n q⟩
theorem VxL.drop {r : Rp} : ∀ {ds : List D} {vs : List V} (n : Nat), VxL r ds vs → VxL r (ds.drop n) (vs.drop n)
  | _, _, 0, h => h
  | [], _, n + 1, h => by
    rw [show _ = [] from h]
    rfl
  | d :: ds, _, n + 1, ⟨v, t, e, h, q⟩ => by
    rw [e]
    exact VxL.drop n q

/-! ### the world: what is frozen, what is tracked, where the instances stand -/
structure Wd where
  F : Hp
  H : Hp
  mu : Nat → Addr
  N : Nat
def Wd.Ok (w : Wd) : Prop := ∀ a o, w.F a = some o → w.H a = some o
section
variable (K : PySem.W.Frag)
def Wd.fz (w : Wd) : Rp := ⟨fun a o => w.F a = some o, fun a o => ∃ ob, w.F a = some (.frz ob o), fun a xs => SqL K w.F a xs, He.ga K, w.mu, w.N⟩
def Wd.vw (w : Wd) : Rp := ⟨fun a o => w.H a = some o, fun a o => Rd w.H a o, fun a xs => SqL K w.H a xs, He.ga K, w.mu, w.N⟩
end
theorem SqL.up {K : PySem.W.Frag} {F H : Hp} {a : Addr} {xs : List V} (k : ∀ o, F a = some o → H a = some o) (h : SqL K F a xs) : SqL K H a xs := by
  rcases h with (h | ⟨o, h⟩) | h
  · exact .inl (.inl (k _ h))
  · exact .inl (.inr ⟨o, k _ h⟩)
  · exact .inr h
theorem Wd.Ok.le {K : PySem.W.Frag} {w : Wd} (h : w.Ok) : (w.fz K).Le (w.vw K) where
  sq := fun a o q => h a o q
  dc := fun a o ⟨ob, q⟩ => .inr ⟨ob, h a _ q⟩
  sc := fun a xs q => SqL.up (fun o e => h a o e) q
  ga := rfl
  le := Nat.le_refl _
  mu := fun _ _ => rfl

/-- pairs with footprints -/
def All3 {α β : Type} (P : α → β → List Addr → Prop) : List α → List β → List Addr → Prop
  | [], [], fp => fp = []
  | a :: as, b :: bs, fp => ∃ f g, fp = f ++ g ∧ P a b f ∧ All3 P as bs g
  | _, _, _ => False
section
variable {α β : Type} {P P' : α → β → List Addr → Prop}
theorem All3.imp : ∀ {as : List α} {bs : List β} {fp : List Addr}, (∀ a b f, a ∈ as → (∀ x ∈ f, x ∈ fp) → P a b f → P' a b f) → All3 P as bs fp → All3 P' as bs fp
  | [], [], _, _, h => h
  | a :: as, b :: bs, _, k, ⟨f, g, e, h, t⟩ => ⟨f, g, e, k a b f (List.mem_cons_self ..) (fun x hx => by rw [e]; exact List.mem_append_left _ hx) h, All3.imp (fun a' b' f' ha hf => k a' b' f' (List.mem_cons_of_mem _ ha) fun x hx => by rw [e]; exact List.mem_append_right _ (hf x hx)) t⟩
  | [], _ :: _, _, _, h => h.elim
  | _ :: _, [], _, _, h => h.elim
theorem All3.len : ∀ {as : List α} {bs : List β} {fp : List Addr}, All3 P as bs fp → bs.length = as.length
  | [], [], _, _ => rfl
  | a :: as, b :: bs, _, ⟨f, g, e, h, t⟩ => by rw [List.length_cons, List.length_cons, All3.len t]
  | [], _ :: _, _, h => h.elim
  | _ :: _, [], _, h => h.elim
theorem All3.mem : ∀ {as : List α} {bs : List β} {fp : List Addr} {x : Addr}, All3 P as bs fp → x ∈ fp → ∃ a b f, a ∈ as ∧ P a b f ∧ x ∈ f
  | [], [], fp, x, h, hx => by
    rw [show fp = [] from h] at hx
    cases hx
  | a :: as, b :: bs, _, x, ⟨f, g, e, h, t⟩, hx => by
    rw [e] at hx
    rcases List.mem_append.mp hx with hx | hx
    · exact ⟨a, b, f, List.mem_cons_self .., h, hx⟩
    · obtain ⟨a', b', f', m, p, q⟩ := All3.mem t hx
      exact ⟨a', b', f', List.mem_cons_of_mem _ m, p, q⟩
  | [], _ :: _, _, _, h, _ => h.elim
  | _ :: _, [], _, _, h, _ => h.elim
/-- the i-th is taken out and another one put in -/
theorem All3.at : ∀ {as : List α} {bs : List β} {fp : List Addr} {i : Nat} {a : α}, All3 P as bs fp → as[i]? = some a →
    ∃ b f1 f f2, bs[i]? = some b ∧ fp = f1 ++ f ++ f2 ∧ P a b f ∧ ∀ a' b' f', P a' b' f' → All3 P (as.set i a') (bs.set i b') (f1 ++ f' ++ f2)
  | [], [], _, _, _, _, e => by cases e
  | a :: as, b :: bs, _, 0, _, ⟨f, g, e, h, t⟩, z => by
    cases z
    exact ⟨b, [], f, g, rfl, by rw [e] <;> rfl, h, fun a' b' f' h' => ⟨f', g, rfl, h', t⟩⟩
  | a :: as, b :: bs, _, i + 1, _, ⟨f, g, e, h, t⟩, z => by
    obtain ⟨b', f1, f', f2, h1, h2, h3, h4⟩ := All3.at (i := i) t z
    exact ⟨b', f ++ f1, f', f2, h1, by rw [e, h2]; simp [List.append_assoc], h3, fun a' b'' f'' h' => ⟨f, f1 ++ f'' ++ f2, by simp [List.append_assoc], h, h4 a' b'' f'' h'⟩⟩
  | [], _ :: _, _, _, _, h, _ => h.elim
  | _ :: _, [], _, _, _, h, _ => h.elim
theorem All3.append : ∀ {as as' : List α} {bs bs' : List β} {f g : List Addr}, All3 P as bs f → All3 P as' bs' g → All3 P (as ++ as') (bs ++ bs') (f ++ g)
  | [], as', [], bs', f, g, h, t => by
    rw [show f = [] from h]
    exact t
  | a :: as, as', b :: bs, bs', _, g, ⟨f1, g1, e, h, q⟩, t => ⟨f1, g1 ++ g, by rw [e, List.append_assoc], h, All3.append q t⟩
  | [], _, _ :: _, _, _, _, h, _ => h.elim
  | _ :: _, _, [], _, _, _, h, _ => h.elim
end

section
variable (K : PySem.W.Frag) (w : Wd)
/-- owned to the depth k, the footprint -/
def Ow : Nat → D → V → List Addr → Prop
  | 0, d, v, fp => Vx (w.fz K) d v ∧ fp = []
  | k + 1, .lst ds, v, fp => ∃ p xs g, v = .ref p ∧ w.H p = some (.lst xs) ∧ w.F p = none ∧ fp = p :: g ∧ All3 (Ow k) ds xs g
  | k + 1, .dct kvs, v, fp => ∃ p kv g, v = .ref p ∧ w.H p = some (.dK kv) ∧ w.F p = none ∧ fp = p :: g ∧ All3 (fun (a : Key × D) (b : Key × V) f => a.1 = b.1 ∧ Ow k a.2 b.2 f) kvs kv g
  | k + 1, .dcT kvs, v, fp => ∃ p kv g, v = .ref p ∧ w.H p = some (.dT kv) ∧ w.F p = none ∧ fp = p :: g ∧ All3 (fun (a : List Key × D) (b : List Key × V) f => a.1 = b.1 ∧ Ow k a.2 b.2 f) kvs kv g
  | _ + 1, d, v, fp => Vx (w.fz K) d v ∧ fp = []
end

/-- from w (owning fp) to w' (owning fp') -/
structure Stp (w : Wd) (fp : List Addr) (w' : Wd) (fp' : List Addr) : Prop where
  fr : ∀ a o, w.F a = some o → w'.F a = some o
  hp : ∀ a o, w.H a = some o → a ∉ fp → w'.H a = some o
  un : ∀ a o, w.H a = some o → a ∉ fp → w'.F a = w.F a
  nw : ∀ a ∈ fp', a ∈ fp ∨ w.H a = none
  le : w.N ≤ w'.N
  mu : ∀ n, n < w.N → w'.mu n = w.mu n
  ok : w'.Ok
namespace Stp
variable {w w1 w2 w' : Wd} {fp fp1 fp2 fp' g : List Addr}
theorem refl (h : w.Ok) : Stp w fp w fp := ⟨fun _ _ e => e, fun _ _ e _ => e, fun _ _ _ _ => rfl, fun _ h => .inl h, Nat.le_refl _, fun _ _ => rfl, h⟩
theorem fz {K : PySem.W.Frag} (s : Stp w fp w' fp') : (w.fz K).Le (w'.fz K) where
  sq := fun a o q => s.fr a o q
  dc := fun a o ⟨ob, q⟩ => ⟨ob, s.fr a _ q⟩
  sc := fun a xs q => SqL.up (fun o e => s.fr a o e) q
  ga := rfl
  le := s.le
  mu := s.mu
theorem trans (a : Stp w fp w1 fp1) (b : Stp w1 fp1 w2 fp2) : Stp w fp w2 fp2 where
  fr := fun x o e => b.fr x o (a.fr x o e)
  hp := fun x o e n => b.hp x o (a.hp x o e n) fun m => (a.nw x m).elim n fun z => by rw [e] at z; cases z
  un := fun x o e n => (b.un x o (a.hp x o e n) fun m => (a.nw x m).elim n fun z => by rw [e] at z; cases z).trans (a.un x o e n)
  nw := fun x m => by
    rcases b.nw x m with m | m
    · exact a.nw x m
    · by_cases hx : x ∈ fp
      · exact .inl hx
      · right
        cases q : w.H x with
        | none => rfl
        | some o =>
          rw [a.hp x o q hx] at m
          cases m
  le := Nat.le_trans a.le b.le
  mu := fun n h => (b.mu n (Nat.lt_of_lt_of_le h a.le)).trans (a.mu n h)
  ok := b.ok
/-- fewer at the end, more at the begin -/
theorem sub (a : Stp w fp w' fp') (h : ∀ x ∈ g, x ∈ fp') : Stp w fp w' g := ⟨a.fr, a.hp, a.un, fun x m => a.nw x (h x m), a.le, a.mu, a.ok⟩
theorem more (a : Stp w fp w' fp') (h : ∀ x ∈ fp, x ∈ g) : Stp w g w' fp' :=
  ⟨a.fr, fun x o e n => a.hp x o e fun m => n (h x m), fun x o e n => a.un x o e fun m => n (h x m), fun x m => (a.nw x m).imp (h x) id, a.le, a.mu, a.ok⟩
/-- something beside, untouched -/
theorem beside (a : Stp w fp w' fp') : Stp w (g ++ fp) w' (g ++ fp') :=
  ⟨a.fr, fun x o e n => a.hp x o e fun m => n (List.mem_append_right _ m), fun x o e n => a.un x o e fun m => n (List.mem_append_right _ m), fun x m => by
    rcases List.mem_append.mp m with m | m
    · exact .inl (List.mem_append_left _ m)
    · exact (a.nw x m).imp (List.mem_append_right _) id, a.le, a.mu, a.ok⟩
theorem nodup (a : Stp w fp w' fp') (hg : (g ++ fp).Nodup) (hd : ∀ x ∈ g, w.H x ≠ none) (h' : fp'.Nodup) : (g ++ fp').Nodup := by
  obtain ⟨h1, h2, h3⟩ := List.nodup_append.mp hg
  refine List.nodup_append.mpr ⟨h1, h', fun x hx y hy e => ?_⟩
  subst e
  rcases a.nw x hy with m | m
  · exact h3 x hx x m rfl
  · exact hd x hx m
end Stp

section
variable {K : PySem.W.Frag} {w w' : Wd} {fp fp' : List Addr}
theorem Ow.leaf {k : Nat} {d : D} {v : V} (h : Vx (w.fz K) d v) (hl : ∀ ds, d ≠ .lst ds) (hd : ∀ kvs, d ≠ .dct kvs) (ht : ∀ kvs, d ≠ .dcT kvs) : Ow K w k d v [] := by
  cases k with
  | zero => exact ⟨h, rfl⟩
  | succ k =>
    cases d with
    | lst ds => exact absurd rfl (hl ds)
    | dct ds => exact absurd rfl (hd ds)
    | dcT ds => exact absurd rfl (ht ds)
    | _ => exact ⟨h, rfl⟩
theorem Ow.dom : ∀ {k : Nat} {d : D} {v : V} {fp : List Addr}, Ow K w k d v fp → ∀ x ∈ fp, w.H x ≠ none ∧ w.F x = none
  | 0, _, _, _, ⟨_, e⟩, x, hx => by
    rw [e] at hx
    cases hx
  | k + 1, .lst ds, _, _, ⟨p, xs, g, _, h, n, e, t⟩, x, hx => by
    rw [e] at hx
    rcases List.mem_cons.mp hx with rfl | hx
    · exact ⟨by rw [h]; simp, n⟩
    · obtain ⟨a, b, f, _, q, m⟩ := t.mem hx
      exact Ow.dom q x m
  | k + 1, .dct ds, _, _, ⟨p, kv, g, _, h, n, e, t⟩, x, hx => by
    rw [e] at hx
    rcases List.mem_cons.mp hx with rfl | hx
    · exact ⟨by rw [h]; simp, n⟩
    · obtain ⟨a, b, f, _, q, m⟩ := t.mem hx
      exact Ow.dom q.2 x m
  | k + 1, .dcT ds, _, _, ⟨p, kv, g, _, h, n, e, t⟩, x, hx => by
    rw [e] at hx
    rcases List.mem_cons.mp hx with rfl | hx
    · exact ⟨by rw [h]; simp, n⟩
    · obtain ⟨a, b, f, _, q, m⟩ := t.mem hx
      exact Ow.dom q.2 x m
  | _ + 1, .non, _, _, ⟨_, e⟩, x, hx => by rw [e] at hx; cases hx
  | _ + 1, .bl _, _, _, ⟨_, e⟩, x, hx => by rw [e] at hx; cases hx
  | _ + 1, .int _, _, _, ⟨_, e⟩, x, hx => by rw [e] at hx; cases hx
  | _ + 1, .str _, _, _, ⟨_, e⟩, x, hx => by rw [e] at hx; cases hx
  | _ + 1, .tup _, _, _, ⟨_, e⟩, x, hx => by rw [e] at hx; cases hx
  | _ + 1, .set _, _, _, ⟨_, e⟩, x, hx => by rw [e] at hx; cases hx
  | _ + 1, .obj _, _, _, ⟨_, e⟩, x, hx => by rw [e] at hx; cases hx
  | _ + 1, .glb _, _, _, ⟨_, e⟩, x, hx => by rw [e] at hx; cases hx
  | _ + 1, .exc _ _, _, _, ⟨_, e⟩, x, hx => by rw [e] at hx; cases hx
  | _ + 1, .ty _, _, _, ⟨_, e⟩, x, hx => by rw [e] at hx; cases hx
  | _ + 1, .scr _, _, _, ⟨_, e⟩, x, hx => by rw [e] at hx; cases hx
/-- what a step leaves -/
theorem Ow.keep (L : (w.fz K).Le (w'.fz K)) : ∀ {k : Nat} {d : D} {v : V} {fp : List Addr}, (∀ x ∈ fp, ∀ o, w.H x = some o → w.F x = none → w'.H x = some o ∧ w'.F x = none) → Ow K w k d v fp → Ow K w' k d v fp
  | 0, d, v, _, _, ⟨h, e⟩ => ⟨Vx.mono L d v h, e⟩
  | k + 1, .lst ds, _, _, c, ⟨p, xs, g, e1, h, n, e, t⟩ => by
    obtain ⟨h1, h2⟩ := c p (by rw [e]; exact List.mem_cons_self ..) _ h n
    exact ⟨p, xs, g, e1, h1, h2, e, All3.imp (fun a b f _ hf q => Ow.keep L (fun x hx o => c x (by rw [e]; exact List.mem_cons_of_mem _ (hf x hx)) o) q) t⟩
  | k + 1, .dct ds, _, _, c, ⟨p, kv, g, e1, h, n, e, t⟩ => by
    obtain ⟨h1, h2⟩ := c p (by rw [e]; exact List.mem_cons_self ..) _ h n
    exact ⟨p, kv, g, e1, h1, h2, e, All3.imp (fun a b f _ hf q => ⟨q.1, Ow.keep L (fun x hx o => c x (by rw [e]; exact List.mem_cons_of_mem _ (hf x hx)) o) q.2⟩) t⟩
  | k + 1, .dcT ds, _, _, c, ⟨p, kv, g, e1, h, n, e, t⟩ => by
    obtain ⟨h1, h2⟩ := c p (by rw [e]; exact List.mem_cons_self ..) _ h n
    exact ⟨p, kv, g, e1, h1, h2, e, All3.imp (fun a b f _ hf q => ⟨q.1, Ow.keep L (fun x hx o => c x (by rw [e]; exact List.mem_cons_of_mem _ (hf x hx)) o) q.2⟩) t⟩
  | _ + 1, .non, v, _, _, ⟨h, e⟩ => ⟨Vx.mono L _ v h, e⟩
  | _ + 1, .bl _, v, _, _, ⟨h, e⟩ => ⟨Vx.mono L _ v h, e⟩
  | _ + 1, .int _, v, _, _, ⟨h, e⟩ => ⟨Vx.mono L _ v h, e⟩
  | _ + 1, .str _, v, _, _, ⟨h, e⟩ => ⟨Vx.mono L _ v h, e⟩
  | _ + 1, .tup _, v, _, _, ⟨h, e⟩ => ⟨Vx.mono L _ v h, e⟩
  | _ + 1, .set _, v, _, _, ⟨h, e⟩ => ⟨Vx.mono L _ v h, e⟩
  | _ + 1, .obj _, v, _, _, ⟨h, e⟩ => ⟨Vx.mono L _ v h, e⟩
  | _ + 1, .glb _, v, _, _, ⟨h, e⟩ => ⟨Vx.mono L _ v h, e⟩
  | _ + 1, .exc _ _, v, _, _, ⟨h, e⟩ => ⟨Vx.mono L _ v h, e⟩
  | _ + 1, .ty _, v, _, _, ⟨h, e⟩ => ⟨Vx.mono L _ v h, e⟩
  | _ + 1, .scr _, v, _, _, ⟨h, e⟩ => ⟨Vx.mono L _ v h, e⟩
theorem Ow.stp {k : Nat} {d : D} {v : V} {fo : List Addr} (h : Ow K w k d v fo) (s : Stp w fp w' fp') (hd : ∀ x ∈ fo, x ∉ fp) : Ow K w' k d v fo :=
  h.keep s.fz fun x hx o e n => ⟨s.hp x o e (hd x hx), (s.un x o e (hd x hx)).trans n⟩
theorem All3.vxl {k : Nat} (P : ∀ d v f, Ow K w k d v f → Vx (w.vw K) d v) : ∀ {ds : List D} {xs : List V} {g : List Addr}, All3 (Ow K w k) ds xs g → VxL (w.vw K) ds xs
  | [], [], _, _ => rfl
  | d :: ds, x :: xs, _, ⟨f, g, e, h, t⟩ => ⟨x, xs, rfl, P d x f h, All3.vxl P t⟩
  | [], _ :: _, _, h => h.elim
  | _ :: _, [], _, h => h.elim
theorem All3.vxd {k : Nat} (P : ∀ d v f, Ow K w k d v f → Vx (w.vw K) d v) : ∀ {ds : List (Key × D)} {xs : List (Key × V)} {g : List Addr}, All3 (fun (a : Key × D) (b : Key × V) f => a.1 = b.1 ∧ Ow K w k a.2 b.2 f) ds xs g → VxD (w.vw K) ds xs
  | [], [], _, _ => rfl
  | (j, d) :: ds, (k, x) :: xs, _, ⟨f, g, e, h, t⟩ => ⟨x, xs, by rw [show j = k from h.1], P d x f h.2, All3.vxd P t⟩
  | [], _ :: _, _, h => h.elim
  | _ :: _, [], _, h => h.elim
theorem All3.vxt {k : Nat} (P : ∀ d v f, Ow K w k d v f → Vx (w.vw K) d v) : ∀ {ds : List (List Key × D)} {xs : List (List Key × V)} {g : List Addr}, All3 (fun (a : List Key × D) (b : List Key × V) f => a.1 = b.1 ∧ Ow K w k a.2 b.2 f) ds xs g → VxT (w.vw K) ds xs
  | [], [], _, _ => rfl
  | (j, d) :: ds, (k, x) :: xs, _, ⟨f, g, e, h, t⟩ => ⟨x, xs, by rw [show j = k from h.1], P d x f h.2, All3.vxt P t⟩
  | [], _ :: _, _, h => h.elim
  | _ :: _, [], _, h => h.elim
/-- what is owned may be read -/
theorem Ow.vw (ok : w.Ok) : ∀ {k : Nat} {d : D} {v : V} {fp : List Addr}, Ow K w k d v fp → Vx (w.vw K) d v
  | 0, d, v, _, ⟨h, _⟩ => Vx.mono ok.le d v h
  | k + 1, .lst ds, _, _, ⟨p, xs, g, e1, h, n, e, t⟩ => ⟨p, xs, e1, h, All3.vxl (fun _ _ _ q => Ow.vw ok q) t⟩
  | k + 1, .dct ds, _, _, ⟨p, kv, g, e1, h, n, e, t⟩ => ⟨p, kv, e1, .inl h, All3.vxd (fun _ _ _ q => Ow.vw ok q) t⟩
  | k + 1, .dcT ds, _, _, ⟨p, kv, g, e1, h, n, e, t⟩ => ⟨p, kv, e1, .inl h, All3.vxt (fun _ _ _ q => Ow.vw ok q) t⟩
  | _ + 1, .non, v, _, ⟨h, e⟩ => Vx.mono ok.le _ v h
  | _ + 1, .bl _, v, _, ⟨h, e⟩ => Vx.mono ok.le _ v h
  | _ + 1, .int _, v, _, ⟨h, e⟩ => Vx.mono ok.le _ v h
  | _ + 1, .str _, v, _, ⟨h, e⟩ => Vx.mono ok.le _ v h
  | _ + 1, .tup _, v, _, ⟨h, e⟩ => Vx.mono ok.le _ v h
  | _ + 1, .set _, v, _, ⟨h, e⟩ => Vx.mono ok.le _ v h
  | _ + 1, .obj _, v, _, ⟨h, e⟩ => Vx.mono ok.le _ v h
  | _ + 1, .glb _, v, _, ⟨h, e⟩ => Vx.mono ok.le _ v h
  | _ + 1, .exc _ _, v, _, ⟨h, e⟩ => Vx.mono ok.le _ v h
  | _ + 1, .ty _, v, _, ⟨h, e⟩ => Vx.mono ok.le _ v h
  | _ + 1, .scr _, v, _, ⟨h, e⟩ => Vx.mono ok.le _ v h
end
end Mi

set_option Elab.async false
set_option linter.all false
set_option maxRecDepth 100000
set_option maxHeartbeats 4000000
namespace Mi
open PySem L2

/-! ### what a text does, by value -/
structure Slot where
  d : D
  k : Nat
  pin : Bool
structure Inst where
  cls : Str
  fs : List (Str × Slot)
structure Sx where
  r : List (Option Slot)
  S : List Inst
structure Exn where
  cls : Str
  fs : List (Str × D)
inductive Rs (α : Type) where
  | ok (a : α) (s : Sx)
  | ex (x : Exn) (s : Sx)
  | no
abbrev M (α : Type) := Sx → Rs α
def ret {α : Type} (a : α) : M α := fun s => .ok a s
def bnd {α β : Type} (m : M α) (f : α → M β) : M β := fun s => match m s with
  | .ok a s' => f a s'
  | .ex x s' => .ex x s'
  | .no => .no
def stuck {α : Type} : M α := fun _ => .no
def opt {α : Type} (o : Option α) : M α := fun s => match o with
  | some a => .ok a s
  | none => .no
inductive Op where
  | val (d : D) (k : Nat)
  | slot (i : Nat)
/-- may it be frozen -/
def fzOk : Nat → D → Bool
  | 0, _ => true
  | k + 1, .lst ds => ds.all (fzOk k)
  | _ + 1, .dct _ => false
  | _ + 1, .dcT _ => false
  | _ + 1, _ => true
/-- what an operand is -/
def look : Op → M (D × Nat)
  | .val d k => ret (d, k)
  | .slot i => fun s => match s.r[i]? with
    | some (some sl) => .ok (sl.d, sl.k) s
    | _ => .no
/-- its items may be handed on -/
def flat : Op → M D := fun o => bnd (look o) fun p => if p.2 ≤ 1 then ret p.1 else stuck
/-- to be stored elsewhere: moved, or frozen -/
def own : Op → M (D × Nat)
  | .val d k => ret (d, k)
  | .slot i => fun s => match s.r[i]? with
    | some (some sl) => if fzOk sl.k sl.d then .ok (sl.d, 0) { s with r := s.r.set i (some { sl with k := 0 }) } else .no
    | _ => .no

section
variable (K : PySem.W.Frag)
def SlR (w : Wd) : Option Slot → Option V → List Addr → Prop
  | none, _, fp => fp = []
  | some s, some v, fp => Ow K w s.k s.d v fp
  | some _, none, _ => False
def OneR (w : Wd) (n : Nat) (i : Inst) (f : List Addr) : Prop :=
  ∃ dx fv g, w.H (w.mu n) = some (.ins (He.ga K i.cls) dx fv) ∧ w.F (w.mu n) = none ∧ f = w.mu n :: g ∧ All3 (fun (a : Str × Slot) (b : Str × V) f => a.1 = b.1 ∧ Ow K w a.2.k a.2.d b.2 f) i.fs fv g
def InsR (w : Wd) : Nat → List Inst → List Addr → Prop
  | _, [], fp => fp = []
  | n, i :: is, fp => ∃ f g, fp = f ++ g ∧ OneR K w n i f ∧ InsR w (n + 1) is g
structure Rel (s0 : St) (s : Sx) (st : St) (w : Wd) (fp : List Addr) : Prop where
  ok : w.Ok
  N : w.N = s.S.length
  parts : ∃ fe fs, fp = fe ++ fs ∧ All3 (SlR K w) s.r st fe ∧ InsR K w 0 s.S fs
  nd : fp.Nodup
  pin : ∀ (i : Nat) (sl : Slot), s.r[i]? = some (some sl) → sl.pin = true → ∃ v, st[i]? = some (some v) ∧ s0[i]? = some (some v)
def OpR (st : St) (w : Wd) : Op → V → List Addr → Prop
  | .val d k, v, fo => Ow K w k d v fo
  | .slot i, v, fo => st[i]? = some (some v) ∧ fo = []
/-- an exception: its class, its own dict -/
def ExR (w : Wd) (x : Exn) (c : Value) (dx : Option Addr) : Prop :=
  c = .ref (He.ga K x.cls) ∧ ((x.fs = [] ∧ dx = none) ∨ ∃ d fv, dx = some d ∧ w.H d = some (.xd fv) ∧ All3 (fun (a : Str × D) (b : Str × V) f => a.1 = b.1 ∧ Vx (w.fz K) a.2 b.2 ∧ f = []) x.fs fv [])
end
section
variable {K : PySem.W.Frag} {w w' : Wd} {fp fp' : List Addr}
theorem SlR.keep (L : (w.fz K).Le (w'.fz K)) : ∀ {o : Option Slot} {v : Option V} {f : List Addr}, (∀ x ∈ f, ∀ o, w.H x = some o → w.F x = none → w'.H x = some o ∧ w'.F x = none) → SlR K w o v f → SlR K w' o v f
  | none, _, _, _, h => h
  | some s, some v, _, c, h => Ow.keep L c h
  | some _, none, _, _, h => h.elim
theorem InsR.keep (L : (w.fz K).Le (w'.fz K)) : ∀ {is : List Inst} {n : Nat} {f : List Addr}, n + is.length ≤ w.N → (∀ x ∈ f, ∀ o, w.H x = some o → w.F x = none → w'.H x = some o ∧ w'.F x = none) → InsR K w n is f → InsR K w' n is f
  | [], _, _, _, _, h => h
  | i :: is, n, _, hn, c, ⟨f, g, e, ⟨dx, fv, g', h1, h2, h3, h4⟩, t⟩ => by
    have hl : n < w.N := Nat.lt_of_lt_of_le (by rw [List.length_cons]; omega) hn
    have em : w'.mu n = w.mu n := L.mu n hl
    obtain ⟨k1, k2⟩ := c (w.mu n) (by rw [e, h3]; exact List.mem_append_left _ (List.mem_cons_self ..)) _ h1 h2
    refine ⟨f, g, e, ⟨dx, fv, g', by rw [em]; exact k1, by rw [em]; exact k2, by rw [em]; exact h3, All3.imp (fun a b f' _ hf q => ⟨q.1, q.2.keep L fun x hx => c x (by rw [e, h3]; exact List.mem_append_left _ (List.mem_cons_of_mem _ (hf x hx)))⟩) h4⟩, InsR.keep L (by rw [List.length_cons] at hn; omega) (fun x hx => c x (by rw [e]; exact List.mem_append_right _ hx)) t⟩
theorem SlR.dom {o : Option Slot} {v : Option V} {f : List Addr} (h : SlR K w o v f) : ∀ x ∈ f, w.H x ≠ none ∧ w.F x = none := by
  cases o with
  | none =>
    intro x hx
    rw [show f = [] from h] at hx
    cases hx
  | some s =>
    cases v with
    | none => exact h.elim
    | some v => exact Ow.dom h
theorem OneR.dom {n : Nat} {i : Inst} {f : List Addr} (h : OneR K w n i f) : ∀ x ∈ f, w.H x ≠ none ∧ w.F x = none := by
  obtain ⟨dx, fv, g', h1, h2, h3, h4⟩ := h
  intro x hx
  rw [h3] at hx
  rcases List.mem_cons.mp hx with rfl | hx
  · exact ⟨by rw [h1]; simp, h2⟩
  · obtain ⟨a, b, f', _, q, m⟩ := h4.mem hx
    exact q.2.dom x m
theorem InsR.dom : ∀ {is : List Inst} {n : Nat} {f : List Addr}, InsR K w n is f → ∀ x ∈ f, w.H x ≠ none ∧ w.F x = none
  | [], _, f, h, x, hx => by
    rw [show f = [] from h] at hx
    cases hx
  | i :: is, n, _, ⟨f, g, e, h, t⟩, x, hx => by
    rw [e] at hx
    rcases List.mem_append.mp hx with hx | hx
    · exact h.dom x hx
    · exact InsR.dom t x hx
variable {s0 st : St} {s s' : Sx}
theorem Rel.dom (R : Rel K s0 s st w fp) : ∀ x ∈ fp, w.H x ≠ none ∧ w.F x = none := by
  obtain ⟨fe, fs, e, h1, h2⟩ := R.parts
  intro x hx
  rw [e] at hx
  rcases List.mem_append.mp hx with hx | hx
  · obtain ⟨a, b, f, _, q, m⟩ := h1.mem hx
    exact q.dom x m
  · exact h2.dom x hx
theorem Rel.keep (R : Rel K s0 s st w fp) (L : (w.fz K).Le (w'.fz K)) (ok : w'.Ok) (hN : w'.N = w.N) (c : ∀ x ∈ fp, ∀ o, w.H x = some o → w.F x = none → w'.H x = some o ∧ w'.F x = none) : Rel K s0 s st w' fp := by
  obtain ⟨fe, fs, e, h1, h2⟩ := R.parts
  refine ⟨ok, hN.trans R.N, ⟨fe, fs, e, All3.imp (fun a b f _ hf q => q.keep L fun x hx => c x (by rw [e]; exact List.mem_append_left _ (hf x hx))) h1, h2.keep L (by rw [R.N]; omega) fun x hx => c x (by rw [e]; exact List.mem_append_right _ hx)⟩, R.nd, R.pin⟩
/-- something new, beside -/
theorem Rel.alloc {fo : List Addr} (R : Rel K s0 s st w fp) (S : Stp w [] w' fo) (hN : w'.N = w.N) : Rel K s0 s st w' fp :=
  R.keep S.fz S.ok hN fun x _ o e n => ⟨S.hp x o e (by simp), (S.un x o e (by simp)).trans n⟩
theorem OpR.stp {o : Op} {v : V} {fo : List Addr} (h : OpR K st w o v fo) (S : Stp w fp w' fp') (hd : ∀ x ∈ fo, x ∉ fp) : OpR K st w' o v fo := by
  cases o with
  | val d k => exact Ow.stp h S hd
  | slot i => exact h
theorem OpR.dom {o : Op} {v : V} {fo : List Addr} (h : OpR K st w o v fo) : ∀ x ∈ fo, w.H x ≠ none ∧ w.F x = none := by
  cases o with
  | val d k => exact Ow.dom h
  | slot i =>
    intro x hx
    rw [h.2] at hx
    cases hx
theorem look_ok {o : Op} {v : V} {fo : List Addr} {d : D} {k : Nat} (R : Rel K s0 s st w fp) (h : OpR K st w o v fo) (e : look o s = .ok (d, k) s') : s' = s ∧ ∃ f, Ow K w k d v f ∧ ∀ x ∈ f, x ∈ fo ++ fp := by
  cases o with
  | val d' k' =>
    unfold look ret at e
    cases e
    exact ⟨rfl, fo, h, fun x hx => List.mem_append_left _ hx⟩
  | slot i =>
    obtain ⟨h1, h2⟩ := h
    obtain ⟨fe, fs, ef, q1, q2⟩ := R.parts
    unfold look at e
    dsimp only at e
    split at e
    · rename_i sl q
      cases e
      obtain ⟨b, f1, f, f2, hb, hf, hp, _⟩ := q1.at q
      rw [h1] at hb
      cases hb
      exact ⟨rfl, f, hp, fun x hx => List.mem_append_right _ (by rw [ef, hf]; simp [hx])⟩
    · cases e
end

/-! ### freezing -/
def Wd.frz (w : Wd) (fp : List Addr) : Wd := { w with F := fun a => if a ∈ fp then w.H a else w.F a }
section
variable {K : PySem.W.Frag} {w : Wd}
theorem Wd.frz_ok (h : w.Ok) (fp : List Addr) : (w.frz fp).Ok := fun a o e => by
  have e' : (if a ∈ fp then w.H a else w.F a) = some o := e
  split at e'
  · exact e'
  · exact h a o e'
theorem frz_fr (h : w.Ok) (fp : List Addr) : ∀ a o, w.F a = some o → (w.frz fp).F a = some o := fun a o e => by
  show (if a ∈ fp then w.H a else w.F a) = some o
  split
  · exact h a o e
  · exact e
theorem frz_stp (h : w.Ok) {fp gp fp' : List Addr} (hs : ∀ x ∈ fp, x ∈ gp) (hs' : ∀ x ∈ fp', x ∈ gp) : Stp w gp (w.frz fp) fp' :=
  ⟨frz_fr h fp, fun _ _ e _ => e, fun a o e n => if_neg fun m => n (hs a m), fun x m => .inl (hs' x m), Nat.le_refl _, fun _ _ => rfl, Wd.frz_ok h fp⟩
theorem frz_le (h : w.Ok) (fp : List Addr) : (w.fz K).Le ((w.frz fp).fz K) := (frz_stp h (gp := fp) (fp' := []) (fun _ m => m) fun x m => nomatch m).fz
theorem frz_vx (ok : w.Ok) (F : List Addr) : ∀ {k : Nat} {d : D} {v : V} {fp : List Addr}, (∀ x ∈ fp, x ∈ F) → fzOk k d = true → Ow K w k d v fp → Vx ((w.frz F).fz K) d v
  | 0, d, v, _, _, _, ⟨h, _⟩ => Vx.mono (frz_le ok F) d v h
  | k + 1, .lst ds, _, _, hs, c, ⟨p, xs, g, e1, h, n, e, t⟩ => by
    refine ⟨p, xs, e1, ?_, ?_⟩
    · show (if p ∈ F then w.H p else w.F p) = some (.lst xs)
      rw [if_pos (hs p (by rw [e]; exact List.mem_cons_self ..))]
      exact h
    · have key : ∀ {ds : List D} {xs : List V} {g : List Addr}, (∀ x ∈ g, x ∈ F) → ds.all (fzOk k) = true → All3 (Ow K w k) ds xs g → VxL ((w.frz F).fz K) ds xs := by
        intro ds
        induction ds with
        | nil =>
          intro xs g _ _ t
          cases xs with
          | nil => rfl
          | cons _ _ => exact t.elim
        | cons d ds ih =>
          intro xs g hg c t
          cases xs with
          | nil => exact t.elim
          | cons x xs =>
            obtain ⟨f, g', e, h, t⟩ := t
            rw [List.all_cons, Bool.and_eq_true] at c
            exact ⟨x, xs, rfl, frz_vx ok F (fun y hy => hg y (by rw [e]; exact List.mem_append_left _ hy)) c.1 h, ih (fun y hy => hg y (by rw [e]; exact List.mem_append_right _ hy)) c.2 t⟩
      exact key (fun x hx => hs x (by rw [e]; exact List.mem_cons_of_mem _ hx)) c t
  | k + 1, .dct ds, _, _, _, c, _ => by cases c
  | k + 1, .dcT ds, _, _, _, c, _ => by cases c
  | _ + 1, .non, v, _, _, _, ⟨h, e⟩ => Vx.mono (frz_le ok F) _ v h
  | _ + 1, .bl _, v, _, _, _, ⟨h, e⟩ => Vx.mono (frz_le ok F) _ v h
  | _ + 1, .int _, v, _, _, _, ⟨h, e⟩ => Vx.mono (frz_le ok F) _ v h
  | _ + 1, .str _, v, _, _, _, ⟨h, e⟩ => Vx.mono (frz_le ok F) _ v h
  | _ + 1, .tup _, v, _, _, _, ⟨h, e⟩ => Vx.mono (frz_le ok F) _ v h
  | _ + 1, .set _, v, _, _, _, ⟨h, e⟩ => Vx.mono (frz_le ok F) _ v h
  | _ + 1, .obj _, v, _, _, _, ⟨h, e⟩ => Vx.mono (frz_le ok F) _ v h
  | _ + 1, .glb _, v, _, _, _, ⟨h, e⟩ => Vx.mono (frz_le ok F) _ v h
  | _ + 1, .exc _ _, v, _, _, _, ⟨h, e⟩ => Vx.mono (frz_le ok F) _ v h
  | _ + 1, .ty _, v, _, _, _, ⟨h, e⟩ => Vx.mono (frz_le ok F) _ v h
  | _ + 1, .scr _, v, _, _, _, ⟨h, e⟩ => Vx.mono (frz_le ok F) _ v h
variable {fp : List Addr} {s0 st : St} {s s' : Sx}
/-- an operand is taken -/
theorem own_ok {o : Op} {v : V} {fo : List Addr} {d : D} {k : Nat} (R : Rel K s0 s st w fp) (h : OpR K st w o v fo) (hn : (fo ++ fp).Nodup) (e : own o s = .ok (d, k) s') :
    ∃ w' fo' fp', Rel K s0 s' st w' fp' ∧ Ow K w' k d v fo' ∧ (fo' ++ fp').Nodup ∧ Stp w (fo ++ fp) w' (fo' ++ fp') ∧ (∀ x ∈ fo', x ∈ fo) ∧ (∀ x ∈ fp', x ∈ fp) ∧ w'.H = w.H ∧ w'.N = w.N := by
  cases o with
  | val d' k' =>
    unfold own ret at e
    cases e
    exact ⟨w, fo, fp, R, h, hn, Stp.refl R.ok, fun _ m => m, fun _ m => m, rfl, rfl⟩
  | slot i =>
    obtain ⟨h1, h2⟩ := h
    subst h2
    obtain ⟨fe, fs, ef, q1, q2⟩ := R.parts
    unfold own at e
    dsimp only at e
    split at e
    · rename_i sl q
      split at e
      · rename_i hz
        cases e
        obtain ⟨b, f1, f, f2, hb, hf, hp, hset⟩ := q1.at q
        rw [h1] at hb
        cases hb
        have hp' : Ow K w sl.k sl.d v f := hp
        have sub : ∀ x ∈ f, x ∈ fp := fun x hx => by rw [ef, hf]; simp [hx]
        have nd : (f1 ++ f ++ f2 ++ fs).Nodup := by rw [← hf, ← ef]; exact R.nd
        have vx := frz_vx (K := K) R.ok f (fun _ m => m) hz hp'
        have hsub : ∀ x ∈ f1 ++ [] ++ f2 ++ fs, x ∈ fp := fun x hx => by rw [ef, hf]; simp at hx ⊢; rcases hx with hx | hx | hx <;> simp [hx]
        have nd2 : (f1 ++ [] ++ f2 ++ fs).Nodup := by
          simp only [List.append_nil, List.nodup_append, List.mem_append] at nd ⊢
          grind
        have hne : ∀ x ∈ f1 ++ [] ++ f2 ++ fs, x ∉ f := fun x hx hf' => by
          simp only [List.append_nil, List.nodup_append, List.mem_append] at nd hx
          grind
        have c : ∀ x ∈ f1 ++ [] ++ f2 ++ fs, ∀ o, w.H x = some o → w.F x = none → (w.frz f).H x = some o ∧ (w.frz f).F x = none := fun x hx o ho n => ⟨ho, by
          show (if x ∈ f then w.H x else w.F x) = none
          rw [if_neg (hne x hx)]
          exact n⟩
        have L := frz_le (K := K) R.ok f
        refine ⟨w.frz f, [], f1 ++ [] ++ f2 ++ fs, ⟨Wd.frz_ok R.ok f, R.N, ⟨f1 ++ [] ++ f2, fs, rfl, ?_, ?_⟩, nd2, ?_⟩, ⟨vx, rfl⟩, nd2, frz_stp R.ok sub hsub, (fun x m => nomatch m), hsub, rfl, rfl⟩
        · have q3 := hset none none [] rfl
          have q4 : All3 (SlR K (w.frz f)) (s.r.set i none) (st.set i none) (f1 ++ [] ++ f2) := All3.imp (fun a b f' _ hf' q => q.keep L fun x hx => c x (List.mem_append_left _ (hf' x hx))) q3
          have hl := q1.len
          have hi : i < s.r.length := (List.getElem?_eq_some_iff.mp q).1
          obtain ⟨b', g1, g, g2, hb', hg, hp2, hset2⟩ := q4.at (i := i) (a := none) (by rw [List.getElem?_set_self hi])
          have eg : g = [] := hp2
          have q5 := hset2 (some { sl with k := 0 }) (some v) [] ⟨vx, rfl⟩
          rw [List.set_set, List.set_set] at q5
          have est : st.set i (some v) = st := by
            apply List.ext_getElem?
            intro j
            by_cases hj : j = i
            · subst hj
              rw [List.getElem?_set_self (by rw [hl]; exact hi), h1]
            · rw [List.getElem?_set_ne (Ne.symm hj)]
          rw [est] at q5
          rw [hg, eg]
          exact q5
        · exact q2.keep L (by have := R.N; show 0 + s.S.length ≤ w.N; omega) fun x hx => c x (List.mem_append_right _ hx)
        · intro j sl' hj hpin
          by_cases hji : j = i
          · subst hji
            have hi : j < s.r.length := (List.getElem?_eq_some_iff.mp q).1
            rw [List.getElem?_set_self hi] at hj
            cases hj
            exact R.pin j sl q hpin
          · rw [List.getElem?_set_ne (Ne.symm hji)] at hj
            exact R.pin j sl' hj hpin
      · cases e
    · cases e
end
end Mi

set_option Elab.async false
set_option linter.all false
set_option maxRecDepth 100000
set_option maxHeartbeats 4000000
namespace Mi
open PySem L2

/-! ### the weakest reading of a piece of text -/
section
variable (X : Cx)
def W (e : Expr) : TE := fun st H Q => ∃ t, PE X e t ∧ t st H Q
def WT (e : Expr) : TT := fun st H Q => ∃ t, PT X e t ∧ t st H Q
def WW (e : Expr) : TT := fun st H Q => ∃ t, PW X e t ∧ t st H Q
def WA (es : List Expr) : TA := fun st H Q => ∃ t, PA X es t ∧ t st H Q
def WS (c : Stmt) : TS := fun D st H => ∃ t, PS X c t ∧ t D st H
def WSs (c : List Stmt) : TS := fun D st H => ∃ t, PSs X c t ∧ t D st H
def WG (e : Expr) : TG := fun v st H Q => ∃ t, PG X e t ∧ t v st H Q
def WGs (es : List Expr) : TGs := fun v st H Q => ∃ t, PGs X es t ∧ t v st H Q
def WI (tg it : Expr) : TI := fun st H R => ∃ t, PI X tg it t ∧ t st H R
end
section
variable {X : Cx} {e : Expr} {es : List Expr}
theorem pe_W : PE X e (W X e) := ⟨fun pins s st H Q I ⟨_, h, q⟩ => h.run pins s st H Q I q⟩
theorem pt_W : PT X e (WT X e) := ⟨fun pins s st H Q I ⟨_, h, q⟩ => h.run pins s st H Q I q⟩
theorem pw_W : PW X e (WW X e) := ⟨fun wh pins s st H Q I ⟨_, h, q⟩ => h.run wh pins s st H Q I q⟩
theorem pa_W : PA X es (WA X es) := ⟨fun pos pins s st H Q I ⟨_, h, q⟩ => h.run pos pins s st H Q I q⟩
theorem ps_W {c : Stmt} : PS X c (WS X c) := ⟨fun pins s st H D I ⟨_, h, q⟩ => h.run pins s st H D I q⟩
theorem pss_W {c : List Stmt} : PSs X c (WSs X c) := ⟨fun pins s st H D I ⟨_, h, q⟩ => h.run pins s st H D I q⟩
theorem pg_W : PG X e (WG X e) := ⟨fun pins s st H v u Q I r ⟨_, h, q⟩ => h.run pins s st H v u Q I r q⟩
theorem pgs_W : PGs X es (WGs X es) := ⟨fun pins s st H v u Q I r ⟨_, h, q⟩ => h.run pins s st H v u Q I r q⟩
theorem pi_W {tg it : Expr} : PI X tg it (WI X tg it) := ⟨fun pins s st H R I ⟨_, h, q⟩ => h.run pins s st H R I q⟩
theorem W.mono {st : St} {H : Hp} {Q Q' : VK} (h : W X e st H Q) (k : ∀ v H', Q v H' → Q' v H') : W X e st H Q' :=
  ⟨fun st H Q' => ∃ Q, W X e st H Q ∧ ∀ v H', Q v H' → Q' v H', ⟨fun pins s st H Q' I ⟨Q, h, k⟩ => thn (pe_W.run pins s st H Q I h) fun _ _ ⟨v, H', I', r, q⟩ => ⟨v, H', I', r, k _ _ q⟩⟩, Q, h, k⟩
theorem WT.mono {st : St} {H : Hp} {Q Q' : Bool → Hp → Prop} (h : WT X e st H Q) (k : ∀ v H', Q v H' → Q' v H') : WT X e st H Q' :=
  ⟨fun st H Q' => ∃ Q, WT X e st H Q ∧ ∀ v H', Q v H' → Q' v H', ⟨fun pins s st H Q' I ⟨Q, h, k⟩ => thn (pt_W.run pins s st H Q I h) fun _ _ ⟨H', I', q⟩ => ⟨H', I', k _ _ q⟩⟩, Q, h, k⟩
theorem WA.mono {st : St} {H : Hp} {Q Q' : List V → Hp → Prop} (h : WA X es st H Q) (k : ∀ v H', Q v H' → Q' v H') : WA X es st H Q' :=
  ⟨fun st H Q' => ∃ Q, WA X es st H Q ∧ ∀ v H', Q v H' → Q' v H', ⟨fun pos pins s st H Q' I ⟨Q, h, k⟩ => thn (pa_W.run pos pins s st H Q I h) fun _ _ ⟨vs, H', I', r, q⟩ => ⟨vs, H', I', r, k _ _ q⟩⟩, Q, h, k⟩
end

/-! ### what is wanted behind -/
section
variable (X : Cx) (wx : WX)
/-- behind an exception -/
def PostX (s0 st : St) (w : Wd) (fp : List Addr) (x : Exn) (s' : Sx) : Prop :=
  ∀ c dx w' fp', Rel X.K s0 s' st w' fp' → Stp w fp w' fp' → ExR X.K w' x c dx → wx c dx st w'.H
/-- behind something that gives an a, which is a b -/
def Post {α β : Type} (RR : α → β → Wd → List Addr → Prop) (s0 st : St) (w : Wd) (fp : List Addr) (r : Rs α) (Q : β → Hp → Prop) : Prop := match r with
  | .ok a s' => ∀ b w' fo fp', Rel X.K s0 s' st w' fp' → RR a b w' fo → (fo ++ fp').Nodup → Stp w fp w' (fo ++ fp') → Q b w'.H
  | .ex x s' => PostX X wx s0 st w fp x s'
  | .no => False
/-- the piece read by J does what m says -/
structure CJ {α β : Type} (J : St → Hp → (β → Hp → Prop) → Prop) (RR : St → α → β → Wd → List Addr → Prop) (m : M α) : Prop where
  run : ∀ s0 s st w fp Q, Rel X.K s0 s st w fp → Post X wx (RR st) s0 st w fp (m s) Q → J st w.H Q
end
def RE (K : PySem.W.Frag) : St → Op → V → Wd → List Addr → Prop := fun st o v w fo => OpR K st w o v fo
def RB : St → Bool → Bool → Wd → List Addr → Prop := fun _ a b _ fo => a = b ∧ fo = []
def RA (K : PySem.W.Frag) : St → List Op → List V → Wd → List Addr → Prop := fun st os vs w fo => All3 (OpR K st w) os vs fo
abbrev CE (X : Cx) (wx : WX) (e : Expr) (m : M Op) : Prop := CJ X wx (W X e) (RE X.K) m
abbrev CT (X : Cx) (wx : WX) (e : Expr) (m : M Bool) : Prop := CJ X wx (WT X e) RB m
abbrev CW (X : Cx) (wx : WX) (e : Expr) (m : M Bool) : Prop := CJ X wx (WW X e) RB m
abbrev CA (X : Cx) (wx : WX) (es : List Expr) (m : M (List Op)) : Prop := CJ X wx (WA X es) (RA X.K) m

section
variable {X : Cx} {wx : WX} {s0 st : St} {s s' : Sx} {w w0 w1 w' : Wd} {fp fp0 fp1 g : List Addr}
theorem PostX.from {x : Exn} (h : PostX X wx s0 st w0 fp0 x s') (S : Stp w0 fp0 w fp) : PostX X wx s0 st w fp x s' :=
  fun c dx w' fp' R S' e => h c dx w' fp' R (S.trans S') e
/-- one thing, then what follows -/
theorem CJ.go {α β γ δ : Type} {J : St → Hp → (β → Hp → Prop) → Prop} {RR : St → α → β → Wd → List Addr → Prop} {R2 : γ → δ → Wd → List Addr → Prop} {m : M α} {f : α → M γ} {Q : δ → Hp → Prop} {Kk : β → Hp → Prop}
    (h : CJ X wx J RR m) (R : Rel X.K s0 s st w fp) (S : Stp w0 fp0 w fp) (hp : Post X wx R2 s0 st w0 fp0 (bnd m f s) Q)
    (k : ∀ a s1 b w1 fo fp1, Rel X.K s0 s1 st w1 fp1 → RR st a b w1 fo → (fo ++ fp1).Nodup → Stp w fp w1 (fo ++ fp1) → Post X wx R2 s0 st w0 fp0 (f a s1) Q → Kk b w1.H) : J st w.H Kk := by
  refine h.run s0 s st w fp Kk R ?_
  unfold bnd at hp
  cases hm : m s with
  | ok a s1 =>
    rw [hm] at hp
    exact fun b w1 fo fp1 R1 r n S1 => k a s1 b w1 fo fp1 R1 r n S1 hp
  | ex x s1 =>
    rw [hm] at hp
    exact PostX.from hp S
  | no =>
    rw [hm] at hp
    exact hp.elim
/-- a step that is nothing in the text -/
theorem Post.ok {γ δ : Type} {R2 : γ → δ → Wd → List Addr → Prop} {a : γ} {Q : δ → Hp → Prop} {b : δ} {fo : List Addr} (hp : Post X wx R2 s0 st w0 fp0 (.ok a s') Q) (R : Rel X.K s0 s' st w fp) (r : R2 a b w fo) (n : (fo ++ fp).Nodup) (S : Stp w0 fp0 w (fo ++ fp)) : Q b w.H :=
  hp b w fo fp R r n S
end

/-! ### a value's answer -/
/-- a new value d (owned to the depth k) at a world that only grew -/
def Res (K : PySem.W.Frag) (w : Wd) (d : D) (k : Nat) (Q : VK) : Prop := ∀ v w' fo, Stp w [] w' fo → w'.N = w.N → fo.Nodup → Ow K w' k d v fo → Q v w'.H
section
variable {K : PySem.W.Frag} {w : Wd} {d : D} {k : Nat} {Q : VK}
theorem Res.here {v : V} (h : Res K w d k Q) (ok : w.Ok) (o : Ow K w k d v []) : Q v w.H := h v w [] (Stp.refl ok) rfl List.nodup_nil o
theorem Res.non (h : Res K w .non 0 Q) (ok : w.Ok) : Q .non w.H := h.here ok ⟨rfl, rfl⟩
theorem Res.bl {b : Bool} (h : Res K w (.bl b) 0 Q) (ok : w.Ok) : Q (.bl b) w.H := h.here ok ⟨rfl, rfl⟩
theorem Res.int {i : Int} (h : Res K w (.int i) 0 Q) (ok : w.Ok) : Q (.int i) w.H := h.here ok ⟨rfl, rfl⟩
theorem Res.str {x : Str} (h : Res K w (.str x) 0 Q) (ok : w.Ok) : Q (.str x) w.H := h.here ok ⟨rfl, rfl⟩
theorem Wd.Ok.none (ok : w.Ok) {p : Addr} (h : w.H p = none) : w.F p = none := by
  cases e : w.F p with
  | none => rfl
  | some o =>
    rw [ok p o e] at h
    cases h
/-- a new list, owned -/
theorem Res.lst {ds : List D} {xs : List V} {p : Addr} (h : Res K w (.lst ds) 1 Q) (ok : w.Ok) (t : VxL (w.fz K) ds xs) (hp : w.H p = none) : Q (.ref p) (upd w.H p (.lst xs)) := by
  have S : Stp w [] { w with H := upd w.H p (.lst xs) } [p] := by
    refine ⟨fun _ _ e => e, fun a o e _ => ?_, fun _ _ _ _ => rfl, fun x m => ?_, Nat.le_refl _, fun _ _ => rfl, fun a o e => ?_⟩
    · show upd w.H p (.lst xs) a = some o
      rw [upd_ne (ne_of_none e hp)]
      exact e
    · rw [List.mem_singleton.mp m]
      exact .inr hp
    · show upd w.H p (.lst xs) a = some o
      have e' : w.F a = some o := e
      rw [upd_ne (ne_of_none (ok a o e') hp)]
      exact ok a o e'
  refine h (.ref p) _ [p] S rfl (by simp) ⟨p, xs, [], rfl, upd_same, ok.none hp, rfl, ?_⟩
  have key2 : ∀ (H : Hp) {ds : List D} {xs : List V}, VxL (w.fz K) ds xs → All3 (Ow K { w with H := H } 0) ds xs [] := by
    intro H ds
    induction ds with
    | nil =>
      intro xs t
      rw [show xs = [] from t]
      rfl
    | cons d ds ih =>
      intro xs t
      obtain ⟨v, r, e, h1, h2⟩ := t
      rw [e]
      exact ⟨[], [], rfl, ⟨h1, rfl⟩, ih h2⟩
  exact key2 _ t
/-- a new tuple, frozen at once -/
theorem Res.tup {ds : List D} {xs : List V} {p : Addr} (h : Res K w (.tup ds) 0 Q) (ok : w.Ok) (t : VxL (w.fz K) ds xs) (hp : w.H p = none) : Q (.ref p) (upd w.H p (.tup xs)) := by
  have S : Stp w [] { w with H := upd w.H p (.tup xs), F := upd w.F p (.tup xs) } [] := by
    refine ⟨fun a o e => ?_, fun a o e _ => ?_, fun a o e _ => ?_, (fun x m => nomatch m), Nat.le_refl _, fun _ _ => rfl, fun a o e => ?_⟩
    · show upd w.F p (.tup xs) a = some o
      rw [upd_ne (ne_of_none e (ok.none hp))]
      exact e
    · show upd w.H p (.tup xs) a = some o
      rw [upd_ne (ne_of_none e hp)]
      exact e
    · show upd w.F p (.tup xs) a = w.F a
      exact upd_ne (ne_of_none e hp)
    · have e' : upd w.F p (.tup xs) a = some o := e
      show upd w.H p (.tup xs) a = some o
      by_cases ha : a = p
      · subst ha
        rw [upd_same] at e' ⊢
        exact e'
      · rw [upd_ne ha] at e' ⊢
        exact ok a o e'
  refine h (.ref p) _ [] S rfl List.nodup_nil ⟨⟨p, xs, rfl, upd_same, VxL.mono S.fz _ _ t⟩, rfl⟩
end
/-- an operand's items, which are frozen; else itself -/
def ItV (K : PySem.W.Frag) (w : Wd) : D → V → Prop
  | .lst ds, v => ∃ p xs, v = .ref p ∧ w.H p = some (.lst xs) ∧ VxL (w.fz K) ds xs
  | .dct kvs, v => ∃ p kv, v = .ref p ∧ Rd w.H p (.dK kv) ∧ VxD (w.fz K) kvs kv
  | .dcT kvs, v => ∃ p kv, v = .ref p ∧ Rd w.H p (.dT kv) ∧ VxT (w.fz K) kvs kv
  | d, v => Vx (w.fz K) d v
section
variable {K : PySem.W.Frag} {w : Wd}
theorem all0 : ∀ {ds : List D} {xs : List V} {g : List Addr}, All3 (Ow K w 0) ds xs g → VxL (w.fz K) ds xs
  | [], [], _, _ => rfl
  | d :: ds, x :: xs, _, ⟨f, g, e, h, t⟩ => ⟨x, xs, rfl, h.1, all0 t⟩
  | [], _ :: _, _, h => h.elim
  | _ :: _, [], _, h => h.elim
theorem all0D : ∀ {ds : List (Key × D)} {xs : List (Key × V)} {g : List Addr}, All3 (fun (a : Key × D) (b : Key × V) f => a.1 = b.1 ∧ Ow K w 0 a.2 b.2 f) ds xs g → VxD (w.fz K) ds xs
  | [], [], _, _ => rfl
  | (j, d) :: ds, (k, x) :: xs, _, ⟨f, g, e, h, t⟩ => ⟨x, xs, by rw [show j = k from h.1], h.2.1, all0D t⟩
  | [], _ :: _, _, h => h.elim
  | _ :: _, [], _, h => h.elim
theorem all0T : ∀ {ds : List (List Key × D)} {xs : List (List Key × V)} {g : List Addr}, All3 (fun (a : List Key × D) (b : List Key × V) f => a.1 = b.1 ∧ Ow K w 0 a.2 b.2 f) ds xs g → VxT (w.fz K) ds xs
  | [], [], _, _ => rfl
  | (j, d) :: ds, (k, x) :: xs, _, ⟨f, g, e, h, t⟩ => ⟨x, xs, by rw [show j = k from h.1], h.2.1, all0T t⟩
  | [], _ :: _, _, h => h.elim
  | _ :: _, [], _, h => h.elim
theorem Vx.itv (ok : w.Ok) {d : D} {v : V} (h : Vx (w.fz K) d v) : ItV K w d v := by
  cases d with
  | lst ds =>
    obtain ⟨a, xs, e, q, t⟩ := h
    exact ⟨a, xs, e, ok a _ q, t⟩
  | dct kvs =>
    obtain ⟨a, kv, e, ⟨ob, q⟩, t⟩ := h
    exact ⟨a, kv, e, .inr ⟨ob, ok a _ q⟩, t⟩
  | dcT kvs =>
    obtain ⟨a, kv, e, ⟨ob, q⟩, t⟩ := h
    exact ⟨a, kv, e, .inr ⟨ob, ok a _ q⟩, t⟩
  | _ => exact h
theorem Ow.itv (ok : w.Ok) {k : Nat} {d : D} {v : V} {f : List Addr} (h : Ow K w k d v f) (hk : k ≤ 1) : ItV K w d v := by
  match k, h with
  | 0, h => exact h.1.itv ok
  | 1, h =>
    cases d with
    | lst ds =>
      obtain ⟨p, xs, g, e1, h1, n, e, t⟩ := h
      exact ⟨p, xs, e1, h1, all0 t⟩
    | dct kvs =>
      obtain ⟨p, kv, g, e1, h1, n, e, t⟩ := h
      exact ⟨p, kv, e1, .inl h1, all0D t⟩
    | dcT kvs =>
      obtain ⟨p, kv, g, e1, h1, n, e, t⟩ := h
      exact ⟨p, kv, e1, .inl h1, all0T t⟩
    | _ => exact h.1
  | k + 2, _ => omega
variable {s0 st : St} {s s' : Sx} {fp : List Addr}
theorem flat_ok {o : Op} {v : V} {fo : List Addr} {d : D} (R : Rel K s0 s st w fp) (h : OpR K st w o v fo) (e : flat o s = .ok d s') : s' = s ∧ ItV K w d v := by
  unfold flat bnd at e
  cases hl : look o s with
  | ok p s1 =>
    rw [hl] at e
    dsimp only at e
    obtain ⟨d', k'⟩ := p
    obtain ⟨rfl, f, q, _⟩ := look_ok R h hl
    split at e
    · rename_i hk
      cases e
      exact ⟨rfl, q.itv R.ok hk⟩
    · cases e
  | ex x s1 =>
    rw [hl] at e
    cases e
  | no =>
    rw [hl] at e
    cases e
theorem look_no {o : Op} {x : Exn} : look o s ≠ .ex x s' := by
  intro e
  cases o with
  | val d k => cases e
  | slot i =>
    unfold look at e
    dsimp only at e
    split at e <;> cases e
theorem flat_no {o : Op} {x : Exn} : flat o s ≠ .ex x s' := by
  intro e
  unfold flat bnd at e
  cases hl : look o s with
  | ok p s1 =>
    rw [hl] at e
    dsimp only at e
    split at e <;> cases e
  | ex y s1 => exact look_no hl
  | no =>
    rw [hl] at e
    cases e
theorem look_vw {o : Op} {v : V} {fo : List Addr} {d : D} {k : Nat} (R : Rel K s0 s st w fp) (h : OpR K st w o v fo) (e : look o s = .ok (d, k) s') : s' = s ∧ Vx (w.vw K) d v := by
  obtain ⟨h1, f, q, _⟩ := look_ok R h e
  exact ⟨h1, q.vw R.ok⟩
end

/-! ### names and constants -/
def vr (i : Nat) : M Op := fun s => match s.r[i]? with
  | some (some _) => .ok (.slot i) s
  | _ => .no
def cn (d : D) : M Op := ret (.val d 0)
section
variable {X : Cx} {wx : WX}
theorem all3_at {K : PySem.W.Frag} {w : Wd} {r : List (Option Slot)} {st : St} {fe : List Addr} {i : Nat} {sl : Slot} (h : All3 (SlR K w) r st fe) (e : r[i]? = some (some sl)) : ∃ v, st[i]? = some (some v) := by
  obtain ⟨b, f1, f, f2, hb, hf, hp, _⟩ := h.at e
  cases b with
  | none => exact False.elim hp
  | some v => exact ⟨v, hb⟩
theorem ce_var (i : Nat) {x : Str} {pos : Pos} (hN : X.N[i]? = some x := by rfl) (hv : Vis X.env.scope x := by first | exact Or.inl rfl | exact Or.inr (Or.inl rfl) | exact Or.inr (Or.inr rfl)) (hd : (x == ("__debug__" : Str)) = false := by decide)
    (hcd : (x == ("__classdict__" : Str)) = false := by decide) : CE X wx (.Name x pos) (vr i) := by
  refine ⟨fun s0 s st w fp Q R hp => ?_⟩
  unfold vr at hp
  split at hp
  · rename_i sl e
    obtain ⟨fe, fs, ef, q1, q2⟩ := R.parts
    obtain ⟨v, hv'⟩ := all3_at q1 e
    exact ⟨_, pe_var hN hv hd hcd, v, hv', hp v w [] fp R ⟨hv', rfl⟩ R.nd (Stp.refl R.ok)⟩
  · exact hp.elim
/-- a piece whose value is a constant -/
theorem ce_cn {e : Expr} {v : V} {d : D} (h : PE X e (tC v)) (r : ∀ w : Wd, Ow X.K w 0 d v []) : CE X wx e (cn d) :=
  ⟨fun s0 s st w fp Q R hp => ⟨_, h, hp v w [] fp R (r w) R.nd (Stp.refl R.ok)⟩⟩
theorem ce_int {i : Int} {j : Nat} {pos : Pos} : CE X wx (.Constant (.int i) j pos) (cn (.int i)) := ce_cn pe_int fun _ => ⟨rfl, rfl⟩
theorem ce_bl {b : Bool} {j : Nat} {pos : Pos} : CE X wx (.Constant (.bool b) j pos) (cn (.bl b)) := ce_cn pe_bl fun _ => ⟨rfl, rfl⟩
theorem ce_non {j : Nat} {pos : Pos} : CE X wx (.Constant .none j pos) (cn .non) := ce_cn pe_non fun _ => ⟨rfl, rfl⟩
theorem ce_str {x : Str} {j : Nat} {pos : Pos} : CE X wx (.Constant (.str x) j pos) (cn (.str x)) := ce_cn pe_str fun _ => ⟨rfl, rfl⟩
/-- a constant of the module: a whole number, a text -/
theorem ce_gint {x : Str} {i : Int} {pos : Pos} (hg : Gl X x) (hm : ∃ t, X.mg x = some (.int i t)) (hd : (x == ("__debug__" : Str)) = false := by decide) : CE X wx (.Name x pos) (cn (.int i)) := by
  obtain ⟨t, hm⟩ := hm
  exact ce_cn (v := .int i) (pe_glob hg hm ⟨t, rfl⟩ hd) fun _ => ⟨rfl, rfl⟩
theorem ce_gstr {x z : Str} {pos : Pos} (hg : Gl X x) (hm : ∃ t, X.mg x = some (.str z t)) (hd : (x == ("__debug__" : Str)) = false := by decide) : CE X wx (.Name x pos) (cn (.str z)) := by
  obtain ⟨t, hm⟩ := hm
  exact ce_cn (v := .str z) (pe_glob hg hm ⟨t, rfl⟩ hd) fun _ => ⟨rfl, rfl⟩
/-- a class, a def -/
theorem ce_glb {x : Str} {pos : Pos} (hg : Gl X x) (hm : X.mg x = some (.ref (He.ga X.K x))) (hd : (x == ("__debug__" : Str)) = false := by decide) : CE X wx (.Name x pos) (cn (.glb x)) :=
  ce_cn (v := .ref (He.ga X.K x)) (pe_glob hg hm rfl hd) fun _ => ⟨rfl, rfl⟩
end

/-! ### operations on two operands -/
/-- f of the two data, which only grows the world -/
def bin (f : D → D → Option (D × Nat)) (a b : M Op) : M Op := bnd a fun x => bnd b fun y => bnd (flat x) fun d => bnd (flat y) fun e => bnd (opt (f d e)) fun r => ret (.val r.1 r.2)
def uno (f : D → Option (D × Nat)) (a : M Op) : M Op := bnd a fun x => bnd (flat x) fun d => bnd (opt (f d)) fun r => ret (.val r.1 r.2)
/-- r does what f says -/
def Bin (X : Cx) (r : R2) (f : D → D → Option (D × Nat)) : Prop := ∀ (w : Wd) (d e : D) (x y : V) (o : D) (k : Nat) (Q : VK), w.Ok → ItV X.K w d x → ItV X.K w e y → f d e = some (o, k) → Res X.K w o k Q → r x y w.H Q
def Uno (X : Cx) (r : V → Hp → VK → Prop) (f : D → Option (D × Nat)) : Prop := ∀ (w : Wd) (d : D) (x : V) (o : D) (k : Nat) (Q : VK), w.Ok → ItV X.K w d x → f d = some (o, k) → Res X.K w o k Q → r x w.H Q
section
variable {X : Cx} {wx : WX} {s0 st : St} {s s' : Sx} {w w0 : Wd} {fp fp0 fo : List Addr}
theorem opt_go {α γ δ : Type} {R2 : γ → δ → Wd → List Addr → Prop} {o : Option α} {f : α → M γ} {Q : δ → Hp → Prop} (hp : Post X wx R2 s0 st w0 fp0 (bnd (opt o) f s) Q) : ∃ a, o = some a ∧ Post X wx R2 s0 st w0 fp0 (f a s) Q := by
  cases o with
  | none => exact hp.elim
  | some a => exact ⟨a, rfl, hp⟩
theorem flat_go {γ δ : Type} {R2 : γ → δ → Wd → List Addr → Prop} {o : Op} {f : D → M γ} {Q : δ → Hp → Prop} {v : V} (hp : Post X wx R2 s0 st w0 fp0 (bnd (flat o) f s) Q) (R : Rel X.K s0 s st w fp) (h : OpR X.K st w o v fo) :
    ∃ d, ItV X.K w d v ∧ Post X wx R2 s0 st w0 fp0 (f d s) Q := by
  unfold bnd at hp
  cases hl : flat o s with
  | ok d s1 =>
    rw [hl] at hp
    obtain ⟨rfl, q⟩ := flat_ok R h hl
    exact ⟨d, q, hp⟩
  | ex x s1 => exact (flat_no hl).elim
  | no =>
    rw [hl] at hp
    exact hp.elim
theorem look_go {γ δ : Type} {R2 : γ → δ → Wd → List Addr → Prop} {o : Op} {f : D × Nat → M γ} {Q : δ → Hp → Prop} {v : V} (hp : Post X wx R2 s0 st w0 fp0 (bnd (look o) f s) Q) (R : Rel X.K s0 s st w fp) (h : OpR X.K st w o v fo) :
    ∃ d k, (∃ f, Ow X.K w k d v f ∧ ∀ x ∈ f, x ∈ fo ++ fp) ∧ Post X wx R2 s0 st w0 fp0 (f (d, k) s) Q := by
  unfold bnd at hp
  cases hl : look o s with
  | ok p s1 =>
    rw [hl] at hp
    obtain ⟨d, k⟩ := p
    obtain ⟨rfl, q⟩ := look_ok R h hl
    exact ⟨d, k, q, hp⟩
  | ex x s1 => exact (look_no hl).elim
  | no =>
    rw [hl] at hp
    exact hp.elim
/-- two operands in a row: both stand -/
theorem two {a b : Expr} {ma mb : M Op} (ha : CE X wx a ma) (hb : CE X wx b mb) {γ δ : Type} {R2 : γ → δ → Wd → List Addr → Prop} {f : Op → Op → M γ} {Q : δ → Hp → Prop} {Kk : V → V → Hp → Prop} (R : Rel X.K s0 s st w fp)
    (hp : Post X wx R2 s0 st w fp (bnd ma (fun x => bnd mb fun y => f x y) s) Q)
    (k : ∀ x y s2 u v w2 f1 f2 fp2, Rel X.K s0 s2 st w2 fp2 → OpR X.K st w2 x u f1 → OpR X.K st w2 y v f2 → (f1 ++ (f2 ++ fp2)).Nodup → Stp w fp w2 (f1 ++ (f2 ++ fp2)) → Post X wx R2 s0 st w fp (f x y s2) Q → Kk u v w2.H) :
    W X a st w.H fun u H1 => W X b st H1 fun v H2 => Kk u v H2 := by
  refine ha.go R (Stp.refl R.ok) hp fun x s1 u w1 f1 fp1 R1 r1 n1 S1 hp1 => ?_
  have hd : ∀ z ∈ f1, z ∉ fp1 := fun z hz hz' => (List.nodup_append.mp n1).2.2 z hz z hz' rfl
  refine hb.go R1 (S1.sub fun z hz => List.mem_append_right _ hz) hp1 fun y s2 v w2 f2 fp2 R2' r2 n2 S2 hp2 => ?_
  have r1' : OpR X.K st w2 x u f1 := OpR.stp r1 S2 hd
  exact k x y s2 u v w2 f1 f2 fp2 R2' r1' r2 (S2.nodup n1 (fun z hz => (OpR.dom r1 z hz).1) n2) (S1.trans S2.beside) hp2
/-- an answer behind operands that are dropped -/
theorem res_end {o : D} {k : Nat} {Q : VK} {g fp : List Addr} (hp : Post X wx (RE X.K st) s0 st w0 fp0 (ret (.val o k) s) Q) (R : Rel X.K s0 s st w fp) (S : Stp w0 fp0 w (g ++ fp)) : Res X.K w o k Q := by
  intro v w' fo S' hN hn ow
  have R' := R.alloc S' hN
  have S2 : Stp w fp w' (fo ++ fp) := ⟨S'.fr, fun x o e _ => S'.hp x o e (by simp), fun x o e _ => S'.un x o e (by simp), fun x m => by
    rcases List.mem_append.mp m with m | m
    · rcases S'.nw x m with m | m
      · cases m
      · exact .inr m
    · exact .inl m, S'.le, S'.mu, S'.ok⟩
  have n2 : (fo ++ fp).Nodup := List.nodup_append.mpr ⟨hn, R.nd, fun x hx y hy e => by
    subst e
    rcases S'.nw x hx with m | m
    · cases m
    · exact (R.dom x hy).1 m⟩
  exact hp v w' fo fp R' ow n2 ((S.sub fun x m => List.mem_append_right _ m).trans S2)
theorem ce_bin {op : Operator} {r : R2} {f : D → D → Option (D × Nat)} {a b : Expr} {ma mb : M Op} {pos : Pos} (ho : L2.OpR X (binaryOp op) r) (hr : Bin X r f) (ha : CE X wx a ma) (hb : CE X wx b mb) : CE X wx (.BinOp a op b pos) (bin f ma mb) := by
  refine ⟨fun s0 s st w fp Q R hp => ⟨_, pe_op ho pe_W pe_W, ?_⟩⟩
  refine two (Kk := fun u v H => r u v H Q) ha hb R hp fun x y s2 u v w2 f1 f2 fp2 R2 r1 r2 n2 S2 hp2 => ?_
  obtain ⟨d, i1, hp2⟩ := flat_go hp2 R2 r1
  obtain ⟨e, i2, hp2⟩ := flat_go hp2 R2 r2
  obtain ⟨⟨o, k⟩, ef, hp2⟩ := opt_go hp2
  exact hr w2 d e u v o k Q R2.ok i1 i2 ef (res_end (g := f1 ++ f2) hp2 R2 (by rw [List.append_assoc]; exact S2))
end
end Mi

set_option Elab.async false
set_option linter.all false
set_option maxRecDepth 100000
set_option maxHeartbeats 4000000
namespace Mi
open PySem L2
def cap : Nat := 1000000
theorem cap_line {n : Nat} (h : n ≤ cap) : n ≤ sizeLine := Nat.le_trans h (by decide)
theorem cap_lt {n : Nat} (h : n < cap) : n < sizeLine := Nat.lt_of_lt_of_le h (by decide)

/-! ### operands that are only looked at -/
def binL (f : D → D → Option (D × Nat)) (a b : M Op) : M Op := bnd a fun x => bnd b fun y => bnd (look x) fun d => bnd (look y) fun e => bnd (opt (f d.1 e.1)) fun r => ret (.val r.1 r.2)
def unoL (f : D → Option (D × Nat)) (a : M Op) : M Op := bnd a fun x => bnd (look x) fun d => bnd (opt (f d.1)) fun r => ret (.val r.1 r.2)
def BinL (X : Cx) (r : R2) (f : D → D → Option (D × Nat)) : Prop := ∀ (w : Wd) (d e : D) (x y : V) (o : D) (k : Nat) (Q : VK), w.Ok → Vx (w.vw X.K) d x → Vx (w.vw X.K) e y → f d e = some (o, k) → Res X.K w o k Q → r x y w.H Q
def UnoL (X : Cx) (r : V → Hp → VK → Prop) (f : D → Option (D × Nat)) : Prop := ∀ (w : Wd) (d : D) (x : V) (o : D) (k : Nat) (Q : VK), w.Ok → Vx (w.vw X.K) d x → f d = some (o, k) → Res X.K w o k Q → r x w.H Q
section
variable {X : Cx} {wx : WX} {s0 st : St} {s s' : Sx} {w w0 : Wd} {fp fp0 fo : List Addr}
theorem ce_uno {e : Expr} {J : TE → TE} {r : V → Hp → VK → Prop} {f : D → Option (D × Nat)} {a : Expr} {ma : M Op} (hp' : ∀ t, PE X a t → PE X e (fun st H Q => t st H fun x H1 => r x H1 Q)) (hr : Uno X r f) (ha : CE X wx a ma) : CE X wx e (uno f ma) := by
  refine ⟨fun s0 s st w fp Q R hp => ⟨_, hp' _ pe_W, ?_⟩⟩
  refine ha.go R (Stp.refl R.ok) hp fun x s1 u w1 f1 fp1 R1 r1 n1 S1 hp1 => ?_
  obtain ⟨d, i1, hp1⟩ := flat_go hp1 R1 r1
  obtain ⟨⟨o, k⟩, ef, hp1⟩ := opt_go hp1
  exact hr w1 d u o k Q R1.ok i1 ef (res_end hp1 R1 S1)
theorem ce_unoL {e : Expr} {r : V → Hp → VK → Prop} {f : D → Option (D × Nat)} {a : Expr} {ma : M Op} (hp' : ∀ t, PE X a t → PE X e (fun st H Q => t st H fun x H1 => r x H1 Q)) (hr : UnoL X r f) (ha : CE X wx a ma) : CE X wx e (unoL f ma) := by
  refine ⟨fun s0 s st w fp Q R hp => ⟨_, hp' _ pe_W, ?_⟩⟩
  refine ha.go R (Stp.refl R.ok) hp fun x s1 u w1 f1 fp1 R1 r1 n1 S1 hp1 => ?_
  obtain ⟨d, k0, ⟨g, i1, _⟩, hp1⟩ := look_go hp1 R1 r1
  obtain ⟨⟨o, k⟩, ef, hp1⟩ := opt_go hp1
  exact hr w1 d u o k Q R1.ok (i1.vw R1.ok) ef (res_end hp1 R1 S1)
theorem ce_binL {e : Expr} {r : R2} {f : D → D → Option (D × Nat)} {a b : Expr} {ma mb : M Op} (hp' : ∀ t u, PE X a t → PE X b u → PE X e (tOp r t u)) (hr : BinL X r f) (ha : CE X wx a ma) (hb : CE X wx b mb) : CE X wx e (binL f ma mb) := by
  refine ⟨fun s0 s st w fp Q R hp => ⟨_, hp' _ _ pe_W pe_W, ?_⟩⟩
  refine two (Kk := fun u v H => r u v H Q) ha hb R hp fun x y s2 u v w2 f1 f2 fp2 R2 r1 r2 n2 S2 hp2 => ?_
  obtain ⟨d, k1, ⟨g1, i1, _⟩, hp2⟩ := look_go hp2 R2 r1
  obtain ⟨e, k2, ⟨g2, i2, _⟩, hp2⟩ := look_go hp2 R2 r2
  obtain ⟨⟨o, k⟩, ef, hp2⟩ := opt_go hp2
  exact hr w2 d e u v o k Q R2.ok (i1.vw R2.ok) (i2.vw R2.ok) ef (res_end (g := f1 ++ f2) hp2 R2 (by rw [List.append_assoc]; exact S2))
end

/-! ### + - * // % ** -/
def addD : D → D → Option (D × Nat)
  | .int a, .int b => some (.int (a + b), 0)
  | .str a, .str b => if a.length + b.length ≤ cap then some (.str (a ++ b), 0) else none
  | .lst a, .lst b => if a.length + b.length ≤ cap then some (.lst (a ++ b), 1) else none
  | .tup a, .tup b => if a.length + b.length ≤ cap then some (.tup (a ++ b), 0) else none
  | _, _ => none
def subD : D → D → Option (D × Nat)
  | .int a, .int b => some (.int (a - b), 0)
  | _, _ => none
def small64 (i : Int) : Bool := decide (-(2 ^ 64) < i) && decide (i < 2 ^ 64)
def mulD : D → D → Option (D × Nat)
  | .int a, .int b => if small64 a || small64 b then some (.int (a * b), 0) else none
  | .lst a, .int k => if decide (-(2 ^ 62) ≤ k) && decide (k < 2 ^ 62) && decide (a.length * k.toNat ≤ cap) then some (.lst (List.replicate k.toNat a).flatten, 1) else none
  | .tup a, .int k => if decide (2 ≤ k) && decide (k ≤ 1000) && decide (a.length ≤ 1000) && !a.isEmpty then some (.tup (List.replicate k.toNat a).flatten, 0) else none
  | _, _ => none
def divD : D → D → Option (D × Nat)
  | .int a, .int b => if decide (0 < b) && decide (b < 1073741824) then some (.int (a / b), 0) else none
  | _, _ => none
def modD : D → D → Option (D × Nat)
  | .int a, .int b => if 0 < b then some (.int (a % b), 0) else none
  | _, _ => none
def powD : D → D → Option (D × Nat)
  | .int a, .int b => if decide (0 ≤ b) && decide (b ≤ 1000000) && decide (a.natAbs < 2 ^ 64) then some (.int (a ^ b.toNat), 0) else none
  | _, _ => none
section
variable {X : Cx} {wx : WX} {w : Wd}
theorem VxL.rep {r : Rp} {ds : List D} {vs : List V} (h : VxL r ds vs) : ∀ n : Nat, VxL r (List.replicate n ds).flatten (List.replicate n vs).flatten
  | 0 => rfl
  | n + 1 => by
    rw [List.replicate_succ, List.replicate_succ, List.flatten_cons, List.flatten_cons]
    exact h.append (VxL.rep h n)
theorem VxL.nil_iff {r : Rp} {ds : List D} {vs : List V} (h : VxL r ds vs) : vs = [] ↔ ds = [] := by
  have e := h.length
  constructor
  · intro z
    rw [z] at e
    exact List.length_eq_zero_iff.mp e.symm
  · intro z
    rw [z] at e
    exact List.length_eq_zero_iff.mp e
def rAddA (K : PySem.W.Frag) : R2 := fun x y H Q => rI0 (fun i j => .int (i + j)) x y H Q ∨ ((∃ i j, x = .str i ∧ y = .str j ∧ i.length + j.length ≤ sizeLine ∧ Q (.str (i ++ j)) H) ∨ (rCat x y H Q ∨ rCatA K x y H Q))
theorem op_addA : L2.OpR X (binaryOp .Add) (rAddA X.K) := op_add.or (op_add_str.or (op_cat.or op_catA))
theorem bin_add : Bin X (rAddA X.K) addD := by
  intro w d e x y o k Q ok hx hy ef r
  unfold addD at ef
  split at ef
  · cases ef
    rw [show x = _ from hx, show y = _ from hy]
    exact .inl ⟨_, _, rfl, rfl, r.int ok⟩
  · split at ef
    · rename_i h
      cases ef
      rw [show x = _ from hx, show y = _ from hy]
      exact .inr (.inl ⟨_, _, rfl, rfl, cap_line h, r.str ok⟩)
    · cases ef
  · split at ef
    · rename_i h
      cases ef
      obtain ⟨p, xs, e1, h1, t1⟩ := hx
      obtain ⟨q, ys, e2, h2, t2⟩ := hy
      exact .inr (.inr (.inl ⟨p, q, xs, ys, e1, e2, h1, h2, by rw [t1.length, t2.length]; exact cap_line h, fun n hn => r.lst ok (t1.append t2) hn⟩))
    · cases ef
  · split at ef
    · rename_i h
      cases ef
      obtain ⟨p, xs, e1, h1, t1⟩ := hx
      obtain ⟨q, ys, e2, h2, t2⟩ := hy
      refine .inr (.inr (.inr ⟨p, q, xs, ys, e1, e2, SqT.of (ok _ _ h1), SqT.of (ok _ _ h2), by rw [t1.length, t2.length]; exact cap_line h, fun z => ?_, fun _ z => ?_, fun _ _ n hn => r.tup ok (t1.append t2) hn⟩))
      · have z' := t1.nil_iff.mp z
        subst z'
        exact r.here ok ⟨⟨q, ys, rfl, h2, t2⟩, rfl⟩
      · have z' := t2.nil_iff.mp z
        subst z'
        refine r.here ok ⟨⟨p, xs, rfl, h1, ?_⟩, rfl⟩
        rw [List.append_nil]
        exact t1
    · cases ef
  · cases ef
theorem bin_sub : Bin X (rI0 fun i j => .int (i - j)) subD := by
  intro w d e x y o k Q ok hx hy ef r
  unfold subD at ef
  split at ef
  · cases ef
    rw [show x = _ from hx, show y = _ from hy]
    exact ⟨_, _, rfl, rfl, r.int ok⟩
  · cases ef
def rMulA (K : PySem.W.Frag) : R2 := fun x y H Q => rI CMul (fun i j => .int (i * j)) x y H Q ∨ (rRep x y H Q ∨ rRepT K x y H Q)
theorem op_mulA : L2.OpR X (binaryOp .Mult) (rMulA X.K) := op_mul.or (op_rep.or op_repT)
theorem bin_mul : Bin X (rMulA X.K) mulD := by
  intro w d e x y o k Q ok hx hy ef r
  unfold mulD at ef
  split at ef
  · split at ef
    · rename_i h
      cases ef
      rw [show x = _ from hx, show y = _ from hy]
      refine .inl ⟨_, _, rfl, rfl, ?_, r.int ok⟩
      unfold small64 at h
      simpa [CMul] using h
    · cases ef
  · split at ef
    · rename_i h
      cases ef
      obtain ⟨p, xs, e1, h1, t1⟩ := hx
      simp only [Bool.and_eq_true, decide_eq_true_eq] at h
      refine .inr (.inl ⟨p, _, xs, e1, hy, h1, by omega, by omega, by rw [t1.length]; exact cap_line h.2, fun n hn => r.lst ok (t1.rep _) hn⟩)
    · cases ef
  · split at ef
    · rename_i h
      cases ef
      obtain ⟨p, xs, e1, h1, t1⟩ := hx
      simp only [Bool.and_eq_true, decide_eq_true_eq, Bool.not_eq_true'] at h
      refine .inr (.inr ⟨p, _, xs, e1, hy, SqT.of (ok _ _ h1), fun z => ?_, h.1.1.1, h.1.1.2, by rw [t1.length]; exact h.1.2, fun n hn => r.tup ok (t1.rep _) hn⟩)
      have z' := t1.nil_iff.mp z
      rw [z'] at h
      cases h.2
    · cases ef
  · cases ef
theorem bin_div : Bin X (rI CDiv fun i j => .int (i / j)) divD := by
  intro w d e x y o k Q ok hx hy ef r
  unfold divD at ef
  split at ef
  · split at ef
    · rename_i h
      cases ef
      rw [show x = _ from hx, show y = _ from hy]
      simp only [Bool.and_eq_true, decide_eq_true_eq] at h
      exact ⟨_, _, rfl, rfl, h, r.int ok⟩
    · cases ef
  · cases ef
theorem bin_mod : Bin X (rI (fun _ j => 0 < j) fun i j => .int (i % j)) modD := by
  intro w d e x y o k Q ok hx hy ef r
  unfold modD at ef
  split at ef
  · split at ef
    · rename_i h
      cases ef
      rw [show x = _ from hx, show y = _ from hy]
      exact ⟨_, _, rfl, rfl, h, r.int ok⟩
    · cases ef
  · cases ef
theorem bin_pow : Bin X (rI CPow fun i j => .int (i ^ j.toNat)) powD := by
  intro w d e x y o k Q ok hx hy ef r
  unfold powD at ef
  split at ef
  · split at ef
    · rename_i h
      cases ef
      rw [show x = _ from hx, show y = _ from hy]
      simp only [Bool.and_eq_true, decide_eq_true_eq] at h
      exact ⟨_, _, rfl, rfl, ⟨h.1.1, h.1.2, h.2⟩, r.int ok⟩
    · cases ef
  · cases ef
variable {a b : Expr} {ma mb : M Op} {pos : Pos}
theorem ce_add (ha : CE X wx a ma) (hb : CE X wx b mb) : CE X wx (.BinOp a .Add b pos) (bin addD ma mb) := ce_bin op_addA bin_add ha hb
theorem ce_sub (ha : CE X wx a ma) (hb : CE X wx b mb) : CE X wx (.BinOp a .Sub b pos) (bin subD ma mb) := ce_bin op_sub bin_sub ha hb
theorem ce_mul (ha : CE X wx a ma) (hb : CE X wx b mb) : CE X wx (.BinOp a .Mult b pos) (bin mulD ma mb) := ce_bin op_mulA bin_mul ha hb
theorem ce_div (ha : CE X wx a ma) (hb : CE X wx b mb) : CE X wx (.BinOp a .FloorDiv b pos) (bin divD ma mb) := ce_bin op_fdiv bin_div ha hb
theorem ce_mod (ha : CE X wx a ma) (hb : CE X wx b mb) : CE X wx (.BinOp a .Mod b pos) (bin modD ma mb) := ce_bin op_mod bin_mod ha hb
theorem ce_pow (ha : CE X wx a ma) (hb : CE X wx b mb) : CE X wx (.BinOp a .Pow b pos) (bin powD ma mb) := ce_bin op_pow bin_pow ha hb
end

/-! ### comparisons -/
mutual
def pyd : D → Option PyData
  | .non => some .none
  | .bl b => some (.bool b)
  | .int i => some (.int i)
  | .str s => some (.str s)
  | .tup ds => (pydL ds).map .tuple
  | .lst ds => (pydL ds).map .list
  | _ => none
def pydL : List D → Option (List PyData)
  | [] => some []
  | d :: ds => match pyd d, pydL ds with
    | some x, some xs => some (x :: xs)
    | _, _ => none
end
section
variable {K : PySem.W.Frag} {w : Wd}
mutual
theorem Vx.dp : ∀ (d : D) (v : V) (y : PyData), Vx (w.vw K) d v → pyd d = some y → Dp K w.H v y
  | .non, v, y, h, e => by
    cases e
    rw [show v = _ from h]
    exact .non
  | .bl b, v, y, h, e => by
    cases e
    rw [show v = _ from h]
    exact .bl b
  | .int b, v, y, h, e => by
    cases e
    rw [show v = _ from h]
    exact .int b
  | .str b, v, y, h, e => by
    cases e
    rw [show v = _ from h]
    exact .str b
  | .tup ds, v, y, ⟨a, xs, ev, q, t⟩, e => by
    unfold pyd at e
    cases hl : pydL ds with
    | none =>
      rw [hl] at e
      cases e
    | some ys =>
      rw [hl] at e
      cases e
      rw [ev]
      exact .tup (SqT.of q) (VxL.dp ds xs ys t hl)
  | .lst ds, v, y, ⟨a, xs, ev, q, t⟩, e => by
    unfold pyd at e
    cases hl : pydL ds with
    | none =>
      rw [hl] at e
      cases e
    | some ys =>
      rw [hl] at e
      cases e
      rw [ev]
      exact .lst (SqL.of q) (VxL.dp ds xs ys t hl)
  | .dct _, _, _, _, e => by cases e
  | .dcT _, _, _, _, e => by cases e
  | .set _, _, _, _, e => by cases e
  | .obj _, _, _, _, e => by cases e
  | .glb _, _, _, _, e => by cases e
  | .exc _ _, _, _, _, e => by cases e
  | .ty _, _, _, _, e => by cases e
  | .scr _, _, _, _, e => by cases e
theorem VxL.dp : ∀ (ds : List D) (vs : List V) (ys : List PyData), VxL (w.vw K) ds vs → pydL ds = some ys → DpAll K w.H vs ys
  | [], vs, ys, h, e => by
    cases e
    rw [show vs = [] from h]
    exact .nil
  | d :: ds, vs, ys, ⟨v, t, ev, h, g⟩, e => by
    unfold pydL at e
    split at e
    · rename_i x xs h1 h2
      cases e
      rw [ev]
      exact .cons (Vx.dp d v x h h1) (VxL.dp ds t xs g h2)
    · cases e
end
end
def eqB (a b : D) : Option Bool := match pyd a, pyd b with
  | some x, some y => if SeqAt.shaped x && SeqAt.shaped y then some (PyData.eqv x y) else none
  | _, _ => none
def neB (a b : D) : Option Bool := (eqB a b).map (!·)
def ltB : D → D → Option Bool
  | .int a, .int b => some (decide (a < b))
  | .str a, .str b => some (decide (a.cps.toList < b.cps.toList))
  | _, _ => none
def gtB (a b : D) : Option Bool := ltB b a
def leB (a b : D) : Option Bool := (ltB b a).map (!·)
def geB (a b : D) : Option Bool := (ltB a b).map (!·)
def keyOfL : List D → Option (List Key)
  | [] => some []
  | .int i :: r => (keyOfL r).map (.inl i :: ·)
  | .str s :: r => (keyOfL r).map (.inr s :: ·)
  | _ => none
def keyOf : D → Option Key
  | .int i => some (.inl i)
  | .str s => some (.inr s)
  | _ => none
def keyOfT : D → Option (List Key)
  | .tup ds => keyOfL ds
  | _ => none
def getK {κ : Type} [DecidableEq κ] (kvs : List (κ × D)) (k : κ) : Option D := (kvs.find? fun p => decide (p.1 = k)).map (·.2)
def putD {κ : Type} [DecidableEq κ] (kvs : List (κ × D)) (k : κ) (d : D) : List (κ × D) := if (getK kvs k).isSome then kvs.map fun p => if p.1 = k then (p.1, d) else p else kvs ++ [(k, d)]
def delD {κ : Type} [DecidableEq κ] (kvs : List (κ × D)) (k : κ) : List (κ × D) := kvs.filter fun p => decide (p.1 ≠ k)
def flatD : D → Bool
  | .non | .bl _ | .int _ | .str _ => true
  | _ => false
def inB : D → D → Option Bool
  | x, .lst ds => match pyd x, pydL ds with
    | some y, some ys => if SeqAt.shaped y && SeqAt.shaped (.list ys) then some (ys.any fun z => PyData.eqv z y) else none
    | _, _ => none
  | x, .tup ds => match pyd x, pydL ds with
    | some y, some ys => if flatD x && ds.all flatD then some (ys.any fun z => PyData.eqv z y) else none
    | _, _ => none
  | x, .dct kvs => (keyOf x).map fun k => (getK kvs k).isSome
  | x, .dcT kvs => (keyOfT x).map fun k => (getK kvs k).isSome
  | .str a, .str b => if a.cps.size = 1 then some (decide ((a.cps.getD 0 0) ∈ b.cps.toList)) else some (!(Builtin.Str.occurrences b a 0 b.length 1).isEmpty)
  | _, _ => none
def ninB (a b : D) : Option Bool := (inB a b).map (!·)
def isNon : D → Bool
  | .non => true
  | _ => false
def isB (d : D) : D → Option Bool
  | .non => some (isNon d)
  | .bl b => match d with
    | .bl a => some (a == b)
    | _ => none
  | _ => none
def nisB (a b : D) : Option Bool := (isB a b).map (!·)
/-- a comparison: r answers what g says -/
def BinB (X : Cx) (r : R2) (g : D → D → Option Bool) : Prop := ∀ (w : Wd) (d e : D) (x y : V) (c : Bool) (Q : VK), w.Ok → Vx (w.vw X.K) d x → Vx (w.vw X.K) e y → g d e = some c → Q (.bl c) w.H → r x y w.H Q
section
variable {X : Cx} {wx : WX} {w : Wd}
theorem map_not {o : Option Bool} {c : Bool} (h : o.map (!·) = some c) : o = some (!c) := by
  cases o with
  | none => cases h
  | some b =>
    cases h
    simp
theorem eqB_dp {a b : D} {x y : V} {c : Bool} (h : eqB a b = some c) (ha : Vx (w.vw X.K) a x) (hb : Vx (w.vw X.K) b y) : ∃ d e, Dp X.K w.H x d ∧ Dp X.K w.H y e ∧ SeqAt.shaped d = true ∧ SeqAt.shaped e = true ∧ c = PyData.eqv d e := by
  unfold eqB at h
  split at h
  · rename_i u v h1 h2
    split at h
    · rename_i hs
      cases h
      rw [Bool.and_eq_true] at hs
      exact ⟨u, v, Vx.dp a x u ha h1, Vx.dp b y v hb h2, hs.1, hs.2, rfl⟩
    · cases h
  · cases h
theorem bin_eq : BinB X (rEqD X.K) eqB := by
  intro w d e x y c Q ok hx hy h q
  obtain ⟨p, p', a1, a2, a3, a4, rfl⟩ := eqB_dp h hx hy
  exact ⟨p, p', a1, a2, a3, a4, q⟩
theorem bin_ne : BinB X (rNeD X.K) neB := by
  intro w d e x y c Q ok hx hy h q
  obtain ⟨p, p', a1, a2, a3, a4, e⟩ := eqB_dp (map_not h) hx hy
  refine ⟨p, p', a1, a2, a3, a4, ?_⟩
  rw [← e, Bool.not_not]
  exact q
def rLtA : R2 := fun x y H Q => rI0 (fun i j => .bl (decide (i < j))) x y H Q ∨ ∃ i j, x = .str i ∧ y = .str j ∧ Q (.bl (decide (i.cps.toList < j.cps.toList))) H
def rLeA : R2 := fun x y H Q => rI0 (fun i j => .bl (decide (i ≤ j))) x y H Q ∨ ∃ i j, x = .str i ∧ y = .str j ∧ Q (.bl (!decide (j.cps.toList < i.cps.toList))) H
def rGtA : R2 := fun x y H Q => rI0 (fun i j => .bl (decide (j < i))) x y H Q ∨ ∃ i j, x = .str i ∧ y = .str j ∧ Q (.bl (decide (j.cps.toList < i.cps.toList))) H
def rGeA : R2 := fun x y H Q => rI0 (fun i j => .bl (decide (j ≤ i))) x y H Q ∨ ∃ i j, x = .str i ∧ y = .str j ∧ Q (.bl (!decide (i.cps.toList < j.cps.toList))) H
theorem op_ltA : L2.OpR X (compareOp .Lt) rLtA := op_lt.or op_lt_str
theorem op_leA : L2.OpR X (compareOp .LtE) rLeA := op_le.or op_le_str
theorem op_gtA : L2.OpR X (compareOp .Gt) rGtA := op_gt.or op_gt_str
theorem op_geA : L2.OpR X (compareOp .GtE) rGeA := op_ge.or op_ge_str
theorem dec_le (i j : Int) : decide (j ≤ i) = !decide (i < j) := by
  by_cases h : j ≤ i
  · rw [decide_eq_true h, decide_eq_false (by omega)]
    rfl
  · rw [decide_eq_false h, decide_eq_true (by omega)]
    rfl
theorem ltB_ok {a b : D} {c : Bool} {x y : V} (h : ltB a b = some c) (hx : Vx (w.vw X.K) a x) (hy : Vx (w.vw X.K) b y) : (∃ i j, x = .int i ∧ y = .int j ∧ c = decide (i < j)) ∨ ∃ i j : Str, x = .str i ∧ y = .str j ∧ c = decide (i.cps.toList < j.cps.toList) := by
  unfold ltB at h
  split at h
  · cases h
    exact .inl ⟨_, _, hx, hy, rfl⟩
  · cases h
    exact .inr ⟨_, _, hx, hy, rfl⟩
  · cases h
theorem bin_lt : BinB X rLtA ltB := by
  intro w d e x y c Q ok hx hy h q
  rcases ltB_ok h hx hy with ⟨i, j, rfl, rfl, rfl⟩ | ⟨i, j, rfl, rfl, rfl⟩
  · exact .inl ⟨i, j, rfl, rfl, q⟩
  · exact .inr ⟨i, j, rfl, rfl, q⟩
theorem bin_gt : BinB X rGtA gtB := by
  intro w d e x y c Q ok hx hy h q
  rcases ltB_ok h hy hx with ⟨i, j, rfl, rfl, rfl⟩ | ⟨i, j, rfl, rfl, rfl⟩
  · exact .inl ⟨j, i, rfl, rfl, q⟩
  · exact .inr ⟨j, i, rfl, rfl, q⟩
theorem bin_le : BinB X rLeA leB := by
  intro w d e x y c Q ok hx hy h q
  rcases ltB_ok (map_not h) hy hx with ⟨i, j, rfl, rfl, e⟩ | ⟨i, j, rfl, rfl, e⟩
  · refine .inl ⟨j, i, rfl, rfl, ?_⟩
    show Q (.bl (decide (j ≤ i))) w.H
    rw [dec_le, ← e, Bool.not_not]
    exact q
  · refine .inr ⟨j, i, rfl, rfl, ?_⟩
    rw [← e, Bool.not_not]
    exact q
theorem bin_ge : BinB X rGeA geB := by
  intro w d e x y c Q ok hx hy h q
  rcases ltB_ok (map_not h) hx hy with ⟨i, j, rfl, rfl, e⟩ | ⟨i, j, rfl, rfl, e⟩
  · refine .inl ⟨i, j, rfl, rfl, ?_⟩
    show Q (.bl (decide (j ≤ i))) w.H
    rw [dec_le, ← e, Bool.not_not]
    exact q
  · refine .inr ⟨i, j, rfl, rfl, ?_⟩
    rw [← e, Bool.not_not]
    exact q
def rIsA : R2 := fun x y H Q => (y = .non ∧ Q (.bl (decide (x = .non))) H) ∨ rIsB x y H Q
def rNisA : R2 := fun x y H Q => (y = .non ∧ Q (.bl (!decide (x = .non))) H) ∨ rNotB x y H Q
theorem op_isA : L2.OpR X (compareOp .Is) rIsA := op_isN.or op_isBl
theorem op_nisA : L2.OpR X (compareOp .IsNot) rNisA := op_notN.or op_notBl
theorem Vx.not_non {r : Rp} {d : D} {v : V} (h : Vx r d v) (hd : d ≠ .non) : v ≠ .non := by
  intro e
  subst e
  cases d with
  | non => exact hd rfl
  | bl b => cases (show V.non = V.bl b from h)
  | int b => cases (show V.non = V.int b from h)
  | str b => cases (show V.non = V.str b from h)
  | tup ds =>
    obtain ⟨a, xs, e, _⟩ := h
    cases e
  | lst ds =>
    obtain ⟨a, xs, e, _⟩ := h
    cases e
  | dct ds =>
    obtain ⟨a, kv, e, _⟩ := h
    cases e
  | dcT ds =>
    obtain ⟨a, kv, e, _⟩ := h
    cases e
  | set _ => exact h
  | obj n => cases h.2
  | glb x => cases (show V.non = V.ref _ from h)
  | exc _ _ => exact h
  | ty n => cases (show V.non = V.ty n from h)
  | scr ds =>
    obtain ⟨a, xs, e, _⟩ := h
    cases e
theorem isB_ok {d e : D} {x y : V} {c : Bool} (h : isB d e = some c) (hx : Vx (w.vw X.K) d x) (hy : Vx (w.vw X.K) e y) : (y = .non ∧ c = decide (x = .non)) ∨ ∃ a b : Bool, x = .bl a ∧ y = .bl b ∧ c = decide (a = b) := by
  unfold isB at h
  split at h
  · cases h
    refine .inl ⟨hy, ?_⟩
    unfold isNon
    split
    · rw [show x = _ from hx, decide_eq_true rfl]
    · rename_i hd
      rw [decide_eq_false (hx.not_non hd)]
  · split at h
    · cases h
      exact .inr ⟨_, _, hx, hy, by rw [Bool.beq_eq_decide_eq]⟩
    · cases h
  · cases h
theorem bin_is : BinB X rIsA isB := by
  intro w d e x y c Q ok hx hy h q
  rcases isB_ok h hx hy with ⟨e1, rfl⟩ | ⟨a, b, e1, e2, rfl⟩
  · exact .inl ⟨e1, q⟩
  · exact .inr ⟨a, b, e1, e2, q⟩
theorem bin_nis : BinB X rNisA nisB := by
  intro w d e x y c Q ok hx hy h q
  rcases isB_ok (map_not h) hx hy with ⟨e1, e2⟩ | ⟨a, b, e1, e2, e3⟩
  · exact .inl ⟨e1, by rw [← e2, Bool.not_not]; exact q⟩
  · exact .inr ⟨a, b, e1, e2, by rw [← e3, Bool.not_not]; exact q⟩

/-! ### in -/
theorem VxD.get {r : Rp} : ∀ {ds : List (Key × D)} {kv : List (Key × V)} (k : Key), VxD r ds kv → (getK ds k = none ∧ valV kv k = none) ∨ ∃ d v, getK ds k = some d ∧ valV kv k = some v ∧ Vx r d v
  | [], _, k, h => by
    rw [show _ = [] from h]
    exact .inl ⟨rfl, rfl⟩
  | (j, d) :: ds, _, k, ⟨v, t, e, h, g⟩ => by
    rw [e]
    by_cases hk : j = k
    · subst hk
      exact .inr ⟨d, v, by simp [getK], by simp [valV], h⟩
    · rcases VxD.get k g with ⟨h1, h2⟩ | ⟨d', v', h1, h2, h3⟩
      · exact .inl ⟨by simpa [getK, hk] using h1, by simpa [valV, hk] using h2⟩
      · exact .inr ⟨d', v', by simpa [getK, hk] using h1, by simpa [valV, hk] using h2, h3⟩
theorem VxT.get {r : Rp} : ∀ {ds : List (List Key × D)} {kv : List (List Key × V)} (k : List Key), VxT r ds kv → (getK ds k = none ∧ valV kv k = none) ∨ ∃ d v, getK ds k = some d ∧ valV kv k = some v ∧ Vx r d v
  | [], _, k, h => by
    rw [show _ = [] from h]
    exact .inl ⟨rfl, rfl⟩
  | (j, d) :: ds, _, k, ⟨v, t, e, h, g⟩ => by
    rw [e]
    by_cases hk : j = k
    · subst hk
      exact .inr ⟨d, v, by simp [getK], by simp [valV], h⟩
    · rcases VxT.get k g with ⟨h1, h2⟩ | ⟨d', v', h1, h2, h3⟩
      · exact .inl ⟨by simpa [getK, hk] using h1, by simpa [valV, hk] using h2⟩
      · exact .inr ⟨d', v', by simpa [getK, hk] using h1, by simpa [valV, hk] using h2, h3⟩
theorem keyOf_ok {r : Rp} {d : D} {v : V} {k : Key} (h : Vx r d v) (e : keyOf d = some k) : v = kV k := by
  unfold keyOf at e
  split at e
  · cases e
    exact h
  · cases e
    exact h
  · cases e
theorem keyOfL_ok {r : Rp} : ∀ {ds : List D} {vs : List V} {ks : List Key}, VxL r ds vs → keyOfL ds = some ks → vs = ks.map kV
  | [], _, ks, h, e => by
    cases e
    exact h
  | d :: ds, _, ks, ⟨v, t, ev, h, g⟩, e => by
    cases d with
    | int i =>
      unfold keyOfL at e
      cases hl : keyOfL ds with
      | none =>
        rw [hl] at e
        cases e
      | some q =>
        rw [hl] at e
        cases e
        rw [ev, keyOfL_ok g hl, show v = _ from h]
        rfl
    | str i =>
      unfold keyOfL at e
      cases hl : keyOfL ds with
      | none =>
        rw [hl] at e
        cases e
      | some q =>
        rw [hl] at e
        cases e
        rw [ev, keyOfL_ok g hl, show v = _ from h]
        rfl
    | _ => cases e
theorem keyOfT_ok {d : D} {v : V} {k : List Key} (h : Vx (w.vw X.K) d v) (e : keyOfT d = some k) : ∃ b, v = .ref b ∧ w.H b = some (.tup (k.map kV)) := by
  cases d with
  | tup ds =>
    obtain ⟨a, xs, ev, q, t⟩ := h
    exact ⟨a, ev, by rw [← keyOfL_ok t e]; exact q⟩
  | _ => cases e
def rInDct (neg : Bool) : R2 := fun x y H Q => ∃ a o, y = .ref a ∧ DGet H a x o ∧ Q (.bl (if neg then !o.isSome else o.isSome)) H
theorem op_inDct (hu : X.A.units + 1 < cLine) : L2.OpR X (compareOp .In) (rInDct false) := by
  intro pins s st H x y v u Q I rx ry h
  obtain ⟨a, o, rfl, g, q⟩ := h
  cases ry
  exact d_in hu I g rx fun s' I' => ⟨.bl o.isSome, H, I', rfl, q⟩
theorem op_ninDct (hu : X.A.units + 1 < cLine) : L2.OpR X (compareOp .NotIn) (rInDct true) := by
  intro pins s st H x y v u Q I rx ry h
  obtain ⟨a, o, rfl, g, q⟩ := h
  cases ry
  exact d_notIn hu I g rx fun s' I' => ⟨.bl (!o.isSome), H, I', rfl, q⟩
def rInStr (neg : Bool) : R2 := fun x y H Q => (∃ (c : Nat) (z : Str), x = .str ⟨#[c]⟩ ∧ y = .str z ∧ Q (.bl (if neg then !decide (c ∈ z.cps.toList) else decide (c ∈ z.cps.toList))) H) ∨
  ∃ i j, x = .str i ∧ y = .str j ∧ Q (.bl (if neg then !(!(Builtin.Str.occurrences j i 0 j.length 1).isEmpty) else !(Builtin.Str.occurrences j i 0 j.length 1).isEmpty)) H
theorem op_inStr : L2.OpR X (compareOp .In) (rInStr false) := op_in_sign.or op_in_str
theorem op_ninStr : L2.OpR X (compareOp .NotIn) (rInStr true) := op_notIn_sign.or op_notIn_str
def rInLst (K : PySem.W.Frag) (neg : Bool) : R2 := fun x y H Q => ∃ d ds, Dp K H x d ∧ Dp K H y (.list ds) ∧ SeqAt.shaped d = true ∧ SeqAt.shaped (.list ds) = true ∧ Q (.bl (if neg then !(ds.any fun z => PyData.eqv z d) else ds.any fun z => PyData.eqv z d)) H
theorem op_inLst (hu : X.A.units + 65 < cLine) : L2.OpR X (compareOp .In) (rInLst X.K false) := op_inD hu
theorem op_ninLst (hu : X.A.units + 65 < cLine) : L2.OpR X (compareOp .NotIn) (rInLst X.K true) := op_notInD hu
def rInA (K : PySem.W.Frag) (neg : Bool) : R2 := fun x y H Q => rInLst K neg x y H Q ∨ (rIn K neg x y H Q ∨ (rInDct neg x y H Q ∨ rInStr neg x y H Q))
theorem op_inA (hu : X.A.units + 65 < cLine) : L2.OpR X (compareOp .In) (rInA X.K false) := (op_inLst hu).or (op_in_seq.or ((op_inDct (by omega)).or op_inStr))
theorem op_ninA (hu : X.A.units + 65 < cLine) : L2.OpR X (compareOp .NotIn) (rInA X.K true) := (op_ninLst hu).or (op_notIn_seq.or ((op_ninDct (by omega)).or op_ninStr))
theorem flat_eqv {r : Rp} {a b : D} {x y : V} {p q : PyData} (fa : flatD a = true) (fb : flatD b = true) (hx : Vx r a x) (hy : Vx r b y) (ha : pyd a = some p) (hb : pyd b = some q) : eqV x y = PyData.eqv p q := by
  cases a <;> first | cases fa | skip
  all_goals cases b <;> first | cases fb | skip
  all_goals
    cases ha
    cases hb
    rw [show x = _ from hx, show y = _ from hy]
    rfl
theorem flat_vx {r : Rp} {a : D} {x : V} (fa : flatD a = true) (hx : Vx r a x) : flatV x = true := by
  cases a <;> first | cases fa | skip
  all_goals
    rw [show x = _ from hx]
    rfl
theorem flat_all {r : Rp} : ∀ {ds : List D} {vs : List V}, ds.all flatD = true → VxL r ds vs → vs.all flatV = true
  | [], _, _, h => by
    rw [show _ = [] from h]
    rfl
  | d :: ds, _, f, ⟨v, t, e, h, g⟩ => by
    rw [List.all_cons, Bool.and_eq_true] at f
    rw [e, List.all_cons, flat_vx f.1 h, flat_all f.2 g]
    rfl
theorem flat_any {r : Rp} {a : D} {x : V} {p : PyData} (fa : flatD a = true) (hx : Vx r a x) (ha : pyd a = some p) : ∀ {ds : List D} {vs : List V} {ys : List PyData}, ds.all flatD = true → VxL r ds vs → pydL ds = some ys → inV x vs = ys.any fun z => PyData.eqv z p
  | [], _, ys, _, h, e => by
    rw [show _ = [] from h]
    cases e
    rfl
  | d :: ds, _, ys, f, ⟨v, t, ev, h, g⟩, e => by
    rw [List.all_cons, Bool.and_eq_true] at f
    unfold pydL at e
    split at e
    · rename_i q qs h1 h2
      cases e
      rw [ev]
      show (eqV v x || inV x t) = (PyData.eqv q p || qs.any fun z => PyData.eqv z p)
      rw [flat_any fa hx ha f.2 g h2, flat_eqv f.1 fa h hx h1 ha]
    · cases e
theorem str1 {a : Str} (h : a.cps.size = 1) : a = ⟨#[a.cps.getD 0 0]⟩ := by
  obtain ⟨c⟩ := a
  obtain ⟨l⟩ := c
  match l, h with
  | [c], _ => rfl
theorem bin_inA (neg : Bool) : BinB X (rInA X.K neg) (fun a b => (inB a b).map fun c => if neg then !c else c) := by
  intro w d e x y c Q ok hx hy h q
  replace h : (inB d e).map (fun c => if neg then !c else c) = some c := h
  cases hi : inB d e with
  | none =>
    rw [hi] at h
    cases h
  | some b =>
    rw [hi] at h
    cases h
    unfold inB at hi
    split at hi
    · split at hi
      · rename_i u us h1 h2
        split at hi
        · rename_i hs
          cases hi
          rw [Bool.and_eq_true] at hs
          refine .inl ⟨u, us, Vx.dp _ _ _ hx h1, Vx.dp _ _ _ hy (by unfold pyd; rw [h2]; rfl), hs.1, hs.2, q⟩
        · cases hi
      · cases hi
    · split at hi
      · rename_i u us h1 h2
        split at hi
        · rename_i hs
          cases hi
          rw [Bool.and_eq_true] at hs
          obtain ⟨a, xs, ev, hq, t⟩ := hy
          refine .inr (.inl ⟨a, xs, ev, .inr (SqT.of hq), flat_vx hs.1 hx, flat_all hs.2 t, ?_⟩)
          rw [flat_any hs.1 hx h1 hs.2 t h2]
          exact q
        · cases hi
      · cases hi
    · rename_i kvs
      cases hk : keyOf d with
      | none =>
        rw [hk] at hi
        cases hi
      | some k =>
        rw [hk] at hi
        cases hi
        obtain ⟨a, kv, ev, hq, t⟩ := hy
        refine .inr (.inr (.inl ⟨a, valV kv k, ev, .inl ⟨kv, k, hq, keyOf_ok hx hk, rfl⟩, ?_⟩))
        rcases t.get k with ⟨h1, h2⟩ | ⟨d', v', h1, h2, _⟩
        · rw [h2]
          dsimp only at q
          rw [h1] at q
          exact q
        · rw [h2]
          dsimp only at q
          rw [h1] at q
          exact q
    · rename_i kvs
      cases hk : keyOfT d with
      | none =>
        rw [hk] at hi
        cases hi
      | some k =>
        rw [hk] at hi
        cases hi
        obtain ⟨a, kv, ev, hq, t⟩ := hy
        obtain ⟨b, eb, hb⟩ := keyOfT_ok hx hk
        refine .inr (.inr (.inl ⟨a, valV kv k, ev, .inr ⟨kv, k, b, hq, eb, hb, rfl⟩, ?_⟩))
        rcases t.get k with ⟨h1, h2⟩ | ⟨d', v', h1, h2, _⟩
        · rw [h2]
          dsimp only at q
          rw [h1] at q
          exact q
        · rw [h2]
          dsimp only at q
          rw [h1] at q
          exact q
    · split at hi
      · rename_i a b hs
        cases hi
        exact .inr (.inr (.inr (.inl ⟨_, b, by rw [← str1 hs]; exact hx, hy, q⟩)))
      · cases hi
        exact .inr (.inr (.inr (.inr ⟨_, _, hx, hy, q⟩)))
    · cases hi
theorem bin_in : BinB X (rInA X.K false) inB := by
  intro w d e x y c Q ok hx hy h q
  exact bin_inA false w d e x y c Q ok hx hy (by show (inB d e).map _ = _; rw [h]; rfl) q
theorem bin_nin : BinB X (rInA X.K true) ninB := by
  intro w d e x y c Q ok hx hy h q
  exact bin_inA true w d e x y c Q ok hx hy (by show (inB d e).map _ = _; rw [map_not h]; simp) q
end
end Mi

set_option Elab.async false
set_option linter.all false
set_option maxRecDepth 100000
set_option maxHeartbeats 4000000
namespace Mi
open PySem L2
section
variable {X : Cx} {wx : WX} {s0 st : St} {s s' : Sx} {w w0 w1 : Wd} {fp fp0 fp1 fo g : List Addr}
theorem nd_dis {a b : List Addr} (h : (a ++ b).Nodup) : ∀ x ∈ a, x ∉ b := fun x hx hy => (List.nodup_append.mp h).2.2 x hx x hy rfl
theorem nd_r {a b : List Addr} (h : (a ++ b).Nodup) : b.Nodup := (List.nodup_append.mp h).2.1
/-- the world's step ahead is dropped to what still stands -/
theorem Stp.dropL {w w' : Wd} {fp a b : List Addr} (S : Stp w fp w' (a ++ b)) : Stp w fp w' b := S.sub fun x m => List.mem_append_right _ m

/-! ### comparisons -/
def cmpV (f : D → D → Option Bool) (a b : M Op) : M Op := bnd a fun x => bnd b fun y => bnd (look x) fun d => bnd (look y) fun e => bnd (opt (f d.1 e.1)) fun c => ret (.val (.bl c) 0)
def cmpT (f : D → D → Option Bool) (a b : M Op) : M Bool := bnd a fun x => bnd b fun y => bnd (look x) fun d => bnd (look y) fun e => opt (f d.1 e.1)
theorem ce_cmp {op : CmpOp} {r : R2} {f : D → D → Option Bool} {a b : Expr} {ma mb : M Op} {pos : Pos} (ho : L2.OpR X (compareOp op) r) (hr : BinB X r f) (ha : CE X wx a ma) (hb : CE X wx b mb) (hm : behindInMarks op b = false) :
    CE X wx (.Compare a [op] [b] pos) (cmpV f ma mb) := by
  refine ⟨fun s0 s st w fp Q R hp => ⟨_, pe_cmpR ho pe_W pe_W hm, ?_⟩⟩
  refine two (Kk := fun u v H => r u v H Q) ha hb R hp fun x y s2 u v w2 f1 f2 fp2 R2 r1 r2 n2 S2 hp2 => ?_
  obtain ⟨d, k1, ⟨g1, i1, _⟩, hp2⟩ := look_go hp2 R2 r1
  obtain ⟨e, k2, ⟨g2, i2, _⟩, hp2⟩ := look_go hp2 R2 r2
  obtain ⟨c, ef, hp2⟩ := opt_go hp2
  refine hr w2 d e u v c Q R2.ok (i1.vw R2.ok) (i2.vw R2.ok) ef ?_
  exact hp2 (.bl c) w2 [] fp2 R2 ⟨rfl, rfl⟩ R2.nd S2.dropL.dropL
theorem ct_cmp {op : CmpOp} {r : R2} {f : D → D → Option Bool} {a b : Expr} {ma mb : M Op} {pos : Pos} (ho : L2.OpR X (compareOp op) r) (hr : BinB X r f) (ha : CE X wx a ma) (hb : CE X wx b mb) (hm : behindInMarks op b = false) :
    CT X wx (.Compare a [op] [b] pos) (cmpT f ma mb) := by
  refine ⟨fun s0 s st w fp Q R hp => ⟨_, pt_cmpR ho pe_W pe_W hm, ?_⟩⟩
  refine two (Kk := fun u v H => r u v H fun z H' => ∃ k, z = .bl k ∧ Q k H') ha hb R hp fun x y s2 u v w2 f1 f2 fp2 R2 r1 r2 n2 S2 hp2 => ?_
  obtain ⟨d, k1, ⟨g1, i1, _⟩, hp2⟩ := look_go hp2 R2 r1
  obtain ⟨e, k2, ⟨g2, i2, _⟩, hp2⟩ := look_go hp2 R2 r2
  cases ef : f d e with
  | none =>
    rw [ef] at hp2
    exact hp2.elim
  | some c =>
    rw [ef] at hp2
    refine hr w2 d e u v c _ R2.ok (i1.vw R2.ok) (i2.vw R2.ok) ef ⟨c, rfl, ?_⟩
    exact hp2 c w2 [] fp2 R2 ⟨rfl, rfl⟩ R2.nd S2.dropL.dropL
section
variable {a b : Expr} {ma mb : M Op} {pos : Pos} (ha : CE X wx a ma) (hb : CE X wx b mb)
include ha hb
theorem ce_lt : CE X wx (.Compare a [.Lt] [b] pos) (cmpV ltB ma mb) := ce_cmp op_ltA bin_lt ha hb (nomark _)
theorem ce_le : CE X wx (.Compare a [.LtE] [b] pos) (cmpV leB ma mb) := ce_cmp op_leA bin_le ha hb (nomark _)
theorem ce_gt : CE X wx (.Compare a [.Gt] [b] pos) (cmpV gtB ma mb) := ce_cmp op_gtA bin_gt ha hb (nomark _)
theorem ce_ge : CE X wx (.Compare a [.GtE] [b] pos) (cmpV geB ma mb) := ce_cmp op_geA bin_ge ha hb (nomark _)
theorem ce_eq (hu : X.A.units + 65 < cLine) : CE X wx (.Compare a [.Eq] [b] pos) (cmpV eqB ma mb) := ce_cmp (op_eqD (by omega)) bin_eq ha hb (nomark _)
theorem ce_ne (hu : X.A.units + 65 < cLine) : CE X wx (.Compare a [.NotEq] [b] pos) (cmpV neB ma mb) := ce_cmp (op_neD (by omega)) bin_ne ha hb (nomark _)
theorem ce_in (hu : X.A.units + 65 < cLine) (hm : behindInMarks .In b = false) : CE X wx (.Compare a [.In] [b] pos) (cmpV inB ma mb) := ce_cmp (op_inA hu) bin_in ha hb hm
theorem ce_nin (hu : X.A.units + 65 < cLine) (hm : behindInMarks .NotIn b = false) : CE X wx (.Compare a [.NotIn] [b] pos) (cmpV ninB ma mb) := ce_cmp (op_ninA hu) bin_nin ha hb hm
theorem ce_is : CE X wx (.Compare a [.Is] [b] pos) (cmpV isB ma mb) := ce_cmp op_isA bin_is ha hb (nomark _)
theorem ce_nis : CE X wx (.Compare a [.IsNot] [b] pos) (cmpV nisB ma mb) := ce_cmp op_nisA bin_nis ha hb (nomark _)
theorem ct_lt : CT X wx (.Compare a [.Lt] [b] pos) (cmpT ltB ma mb) := ct_cmp op_ltA bin_lt ha hb (nomark _)
theorem ct_le : CT X wx (.Compare a [.LtE] [b] pos) (cmpT leB ma mb) := ct_cmp op_leA bin_le ha hb (nomark _)
theorem ct_gt : CT X wx (.Compare a [.Gt] [b] pos) (cmpT gtB ma mb) := ct_cmp op_gtA bin_gt ha hb (nomark _)
theorem ct_ge : CT X wx (.Compare a [.GtE] [b] pos) (cmpT geB ma mb) := ct_cmp op_geA bin_ge ha hb (nomark _)
theorem ct_eq (hu : X.A.units + 65 < cLine) : CT X wx (.Compare a [.Eq] [b] pos) (cmpT eqB ma mb) := ct_cmp (op_eqD (by omega)) bin_eq ha hb (nomark _)
theorem ct_ne (hu : X.A.units + 65 < cLine) : CT X wx (.Compare a [.NotEq] [b] pos) (cmpT neB ma mb) := ct_cmp (op_neD (by omega)) bin_ne ha hb (nomark _)
theorem ct_in (hu : X.A.units + 65 < cLine) (hm : behindInMarks .In b = false) : CT X wx (.Compare a [.In] [b] pos) (cmpT inB ma mb) := ct_cmp (op_inA hu) bin_in ha hb hm
theorem ct_nin (hu : X.A.units + 65 < cLine) (hm : behindInMarks .NotIn b = false) : CT X wx (.Compare a [.NotIn] [b] pos) (cmpT ninB ma mb) := ct_cmp (op_ninA hu) bin_nin ha hb hm
theorem ct_is : CT X wx (.Compare a [.Is] [b] pos) (cmpT isB ma mb) := ct_cmp op_isA bin_is ha hb (nomark _)
theorem ct_nis : CT X wx (.Compare a [.IsNot] [b] pos) (cmpT nisB ma mb) := ct_cmp op_nisA bin_nis ha hb (nomark _)
end

/-! ### a < b < c -/
def chV (f f' : D → D → Option Bool) (a b c : M Op) : M Op := bnd a fun x => bnd b fun y => bnd (look x) fun d => bnd (look y) fun e => bnd (opt (f d.1 e.1)) fun k => if k then bnd c fun z => bnd (look y) fun e' => bnd (look z) fun h => bnd (opt (f' e'.1 h.1)) fun k' => ret (.val (.bl k') 0) else ret (.val (.bl false) 0)
def chT (f f' : D → D → Option Bool) (a b c : M Op) : M Bool := bnd a fun x => bnd b fun y => bnd (look x) fun d => bnd (look y) fun e => bnd (opt (f d.1 e.1)) fun k => if k then bnd c fun z => bnd (look y) fun e' => bnd (look z) fun h => opt (f' e'.1 h.1) else ret false
theorem chain {γ δ : Type} {RP : γ → δ → Wd → List Addr → Prop} {Qp : δ → Hp → Prop} {r r' : R2} {f f' : D → D → Option Bool} {a b c : Expr} {ma mb mc : M Op} {out : Bool → M γ} {Kk : Bool → Hp → Prop} (hr : BinB X r f) (hr' : BinB X r' f') (ha : CE X wx a ma) (hb : CE X wx b mb) (hc : CE X wx c mc)
    (R : Rel X.K s0 s st w fp) (hp : Post X wx RP s0 st w fp (bnd ma (fun x => bnd mb fun y => bnd (look x) fun d => bnd (look y) fun e => bnd (opt (f d.1 e.1)) fun k => if k then bnd mc fun z => bnd (look y) fun e' => bnd (look z) fun h => bnd (opt (f' e'.1 h.1)) out else out false) s) Qp)
    (he : ∀ k s2 w2 g fp2, Rel X.K s0 s2 st w2 fp2 → Stp w fp w2 (g ++ fp2) → Post X wx RP s0 st w fp (out k s2) Qp → Kk k w2.H) :
    tChain r r' (W X a) (W X b) (W X c) st w.H fun z H => ∃ k, z = .bl k ∧ Kk k H := by
  refine two (Kk := fun u v H2 => r u v H2 fun z H3 => ∃ k, z = .bl k ∧ (if k = true then W X c st H3 fun w' H4 => r' v w' H4 fun z H => ∃ k, z = .bl k ∧ Kk k H else ∃ k, V.bl false = .bl k ∧ Kk k H3)) ha hb R hp fun x y s2 u v w2 f1 f2 fp2 R2 r1 r2 n2 S2 hp2 => ?_
  obtain ⟨d, k1, ⟨g1, i1, _⟩, hp2⟩ := look_go hp2 R2 r1
  obtain ⟨e, k2, ⟨g2, i2, _⟩, hp2⟩ := look_go hp2 R2 r2
  obtain ⟨k, ef, hp2⟩ := opt_go hp2
  refine hr w2 d e u v k _ R2.ok (i1.vw R2.ok) (i2.vw R2.ok) ef ⟨k, rfl, ?_⟩
  have S2' : Stp w fp w2 (f2 ++ fp2) := S2.dropL
  have n2' : (f2 ++ fp2).Nodup := nd_r n2
  cases k with
  | false =>
    rw [if_neg Bool.false_ne_true]
    rw [if_neg Bool.false_ne_true] at hp2
    exact ⟨false, rfl, he false s2 w2 f2 fp2 R2 S2' hp2⟩
  | true =>
    rw [if_pos rfl]
    rw [if_pos rfl] at hp2
    refine hc.go R2 S2'.dropL hp2 fun z s3 t w3 f3 fp3 R3 r3 n3 S3 hp3 => ?_
    have r2' : OpR X.K st w3 y v f2 := OpR.stp r2 S3 (nd_dis n2')
    obtain ⟨e', k3, ⟨g3, i3, _⟩, hp3⟩ := look_go hp3 R3 r2'
    obtain ⟨h, k4, ⟨g4, i4, _⟩, hp3⟩ := look_go hp3 R3 r3
    obtain ⟨k', ef', hp3⟩ := opt_go hp3
    refine hr' w3 e' h v t k' _ R3.ok (i3.vw R3.ok) (i4.vw R3.ok) ef' ⟨k', rfl, ?_⟩
    exact he k' s3 w3 f3 fp3 R3 (S2'.dropL.trans S3) hp3
theorem bl_imp {P : Bool → Prop} {z : V} (h : ∃ k, z = .bl k ∧ P k) : ∃ k, z = .bl k ∧ P k := h
theorem OpR_bl {k : Bool} : OpR X.K st w (.val (.bl k) 0) (.bl k) [] := ⟨rfl, rfl⟩
/-- an answer of a comparison may be weakened -/
def Mono2 (r : R2) : Prop := ∀ x y H (Q Q' : VK), (∀ v H', Q v H' → Q' v H') → r x y H Q → r x y H Q'
theorem ce_ch {op op' : CmpOp} {r r' : R2} {f f' : D → D → Option Bool} {a b c : Expr} {ma mb mc : M Op} {pos : Pos} (ho : L2.OpR X (compareOp op) r) (ho' : L2.OpR X (compareOp op') r') (hr : BinB X r f) (hr' : BinB X r' f') (ha : CE X wx a ma) (hb : CE X wx b mb) (hc : CE X wx c mc)
    (hm : lastMarks [op, op'] [b, c] = false := by with_unfolding_all rfl) : CE X wx (.Compare a [op, op'] [b, c] pos) (chV f f' ma mb mc) := by
  refine ⟨fun s0 s st w fp Q R hp => W.mono ⟨_, pe_chain ho ho' pe_W pe_W pe_W hm, chain (RP := RE X.K st) (Qp := Q) (Kk := fun k H => Q (.bl k) H) (out := fun k => ret (Op.val (.bl k) 0)) hr hr' ha hb hc R (by unfold chV at hp; exact hp) fun k s2 w2 g fp2 R2 S2 hp2 => ?_⟩ fun v H h => ?_⟩
  · exact hp2 (.bl k) w2 [] fp2 R2 OpR_bl R2.nd S2.dropL
  · obtain ⟨k, rfl, q⟩ := h
    exact q
theorem opt_ret {α : Type} (o : Option α) : (bnd (opt o) fun k => ret k) = opt o := by
  funext s
  cases o <;> rfl
theorem ct_ch {op op' : CmpOp} {r r' : R2} {f f' : D → D → Option Bool} {a b c : Expr} {ma mb mc : M Op} {pos : Pos} (ho : L2.OpR X (compareOp op) r) (ho' : L2.OpR X (compareOp op') r') (hr : BinB X r f) (hr' : BinB X r' f') (ha : CE X wx a ma) (hb : CE X wx b mb) (hc : CE X wx c mc)
    (hm : lastMarks [op, op'] [b, c] = false := by with_unfolding_all rfl) : CT X wx (.Compare a [op, op'] [b, c] pos) (chT f f' ma mb mc) := by
  refine ⟨fun s0 s st w fp Q R hp => ⟨_, pt_chain ho ho' pe_W pe_W pe_W hm, ?_⟩⟩
  refine chain (RP := RB st) (Qp := Q) (Kk := fun k H => Q k H) (out := fun k => ret k) hr hr' ha hb hc R (by
    unfold chT at hp
    simp only [opt_ret]
    exact hp) fun k s2 w2 g fp2 R2 S2 hp2 => ?_
  exact hp2 k w2 [] fp2 R2 ⟨rfl, rfl⟩ R2.nd S2.dropL

/-! ### truth -/
def truB : D → Option Bool
  | .non => some false
  | .bl b => some b
  | .int i => some (i != 0)
  | .str x => if x.length ≤ cap then some ((x.length : Int) != 0) else none
  | .lst ds => some (!ds.isEmpty)
  | .tup ds => some (!ds.isEmpty)
  | _ => none
theorem isEmpty_vxl {r : Rp} {ds : List D} {vs : List V} (h : VxL r ds vs) : vs.isEmpty = ds.isEmpty := by
  have e := h.length
  cases ds <;> cases vs <;> first | rfl | (simp at e)
theorem truB_ok {d : D} {v : V} {b : Bool} (h : Vx (w.vw X.K) d v) (e : truB d = some b) : TruV X.K v w.H b := by
  unfold truB at e
  split at e
  · cases e
    rw [show v = _ from h]
    rfl
  · cases e
    rw [show v = _ from h]
    rfl
  · cases e
    rw [show v = _ from h]
    rfl
  · split at e
    · rename_i hz
      cases e
      rw [show v = _ from h]
      exact ⟨cap_line hz, rfl⟩
    · cases e
  · cases e
    obtain ⟨a, xs, ev, q, t⟩ := h
    rw [ev]
    exact .inl ⟨xs, SqL.of q, by rw [isEmpty_vxl t]⟩
  · cases e
    obtain ⟨a, xs, ev, q, t⟩ := h
    rw [ev]
    exact .inr (.inl ⟨xs, SqT.of q, by rw [isEmpty_vxl t]⟩)
  · cases e
def truM (a : M Op) : M Bool := bnd a fun x => bnd (look x) fun d => opt (truB d.1)
theorem ct_tru {a : Expr} {ma : M Op} (ha : CE X wx a ma) (he : ∀ whole, isTrue a X.env whole = (do let v ← whole; standAt a.pos; holding [v] (truthy v)) := by intro _; rfl) : CT X wx a (truM ma) := by
  refine ⟨fun s0 s st w fp Q R hp => ⟨_, pt_truth pe_W he, ?_⟩⟩
  refine ha.go R (Stp.refl R.ok) hp fun x s1 u w1 f1 fp1 R1 r1 n1 S1 hp1 => ?_
  obtain ⟨d, k0, ⟨g, i1, _⟩, hp1⟩ := look_go hp1 R1 r1
  cases ef : truB d with
  | none =>
    rw [ef] at hp1
    exact hp1.elim
  | some c =>
    rw [ef] at hp1
    exact ⟨c, truB_ok (i1.vw R1.ok) ef, hp1 c w1 [] fp1 R1 ⟨rfl, rfl⟩ R1.nd S1.dropL⟩
def notT (m : M Bool) : M Bool := bnd m fun c => ret (!c)
def andT (a b : M Bool) : M Bool := bnd a fun c => if c then b else ret false
def orT (a b : M Bool) : M Bool := bnd a fun c => if c then ret true else b
theorem ct_not {a : Expr} {m : M Bool} {pos : Pos} (ha : CT X wx a m) : CT X wx (.UnaryOp .Not a pos) (notT m) := by
  refine ⟨fun s0 s st w fp Q R hp => ⟨_, pt_not pt_W, ?_⟩⟩
  refine ha.go R (Stp.refl R.ok) hp fun c s1 b w1 f1 fp1 R1 r1 n1 S1 hp1 => ?_
  obtain ⟨rfl, rfl⟩ := r1
  exact hp1 (!c) w1 [] fp1 R1 ⟨rfl, rfl⟩ R1.nd S1
/-- from where one stands on -/
theorem CJ.on {α β : Type} {J : St → Hp → (β → Hp → Prop) → Prop} {RR : St → α → β → Wd → List Addr → Prop} {m : M α} {Q : β → Hp → Prop} (h : CJ X wx J RR m) (R : Rel X.K s0 s st w fp) (S : Stp w0 fp0 w fp) (hp : Post X wx (RR st) s0 st w0 fp0 (m s) Q) : J st w.H Q := by
  refine h.run s0 s st w fp Q R ?_
  cases hm : m s with
  | ok a s1 =>
    rw [hm] at hp
    exact fun b w1 fo fp1 R1 r n S1 => hp b w1 fo fp1 R1 r n (S.trans S1)
  | ex x s1 =>
    rw [hm] at hp
    exact PostX.from hp S
  | no =>
    rw [hm] at hp
    exact hp
theorem ct_w {e : Expr} {m : M Bool} (h : CW X wx e m) : CT X wx e m := ⟨fun s0 s st w fp Q R hp => let ⟨t, ht, q⟩ := h.run s0 s st w fp Q R hp; ⟨t, ht.pt, q⟩⟩
theorem cw_and1 {a : Expr} {m : M Bool} {pos : Pos} (h : CT X wx a m) : CW X wx (.BoolOp .And [a] pos) m := ⟨fun s0 s st w fp Q R hp => let ⟨t, ht, q⟩ := h.run s0 s st w fp Q R hp; ⟨t, pw_and1 ht, q⟩⟩
theorem cw_or1 {a : Expr} {m : M Bool} {pos : Pos} (h : CT X wx a m) : CW X wx (.BoolOp .Or [a] pos) m := ⟨fun s0 s st w fp Q R hp => let ⟨t, ht, q⟩ := h.run s0 s st w fp Q R hp; ⟨t, pw_or1 ht, q⟩⟩
theorem cw_and {a b : Expr} {rest : List Expr} {m n : M Bool} {pos : Pos} (ha : CT X wx a m) (hb : CW X wx (.BoolOp .And (b :: rest) pos) n) : CW X wx (.BoolOp .And (a :: b :: rest) pos) (andT m n) := by
  refine ⟨fun s0 s st w fp Q R hp => ⟨_, pw_and pt_W pw_W, ?_⟩⟩
  refine ha.go R (Stp.refl R.ok) hp fun c s1 b' w1 f1 fp1 R1 r1 n1 S1 hp1 => ?_
  obtain ⟨rfl, rfl⟩ := r1
  cases c with
  | true =>
    rw [if_pos rfl]
    exact hb.on R1 S1 hp1
  | false =>
    rw [if_neg Bool.false_ne_true]
    exact hp1 false w1 [] fp1 R1 ⟨rfl, rfl⟩ R1.nd S1
theorem cw_or {a b : Expr} {rest : List Expr} {m n : M Bool} {pos : Pos} (ha : CT X wx a m) (hb : CW X wx (.BoolOp .Or (b :: rest) pos) n) : CW X wx (.BoolOp .Or (a :: b :: rest) pos) (orT m n) := by
  refine ⟨fun s0 s st w fp Q R hp => ⟨_, pw_or pt_W pw_W, ?_⟩⟩
  refine ha.go R (Stp.refl R.ok) hp fun c s1 b' w1 f1 fp1 R1 r1 n1 S1 hp1 => ?_
  obtain ⟨rfl, rfl⟩ := r1
  cases c with
  | true =>
    rw [if_pos rfl]
    exact hp1 true w1 [] fp1 R1 ⟨rfl, rfl⟩ R1.nd S1
  | false =>
    rw [if_neg Bool.false_ne_true]
    exact hb.on R1 S1 hp1
/-! ### and, or, not, if as values -/
def notV (a : M Op) : M Op := bnd a fun x => bnd (look x) fun d => bnd (opt (truB d.1)) fun c => ret (.val (.bl (!c)) 0)
def andV (a b : M Op) : M Op := bnd a fun x => bnd (look x) fun d => bnd (opt (truB d.1)) fun c => if c then b else ret x
def orV (a b : M Op) : M Op := bnd a fun x => bnd (look x) fun d => bnd (opt (truB d.1)) fun c => if c then ret x else b
def ifV (c : M Bool) (a b : M Op) : M Op := bnd c fun k => if k then a else b
theorem ce_not {a : Expr} {ma : M Op} {pos : Pos} (ha : CE X wx a ma) : CE X wx (.UnaryOp .Not a pos) (notV ma) := by
  refine ⟨fun s0 s st w fp Q R hp => ⟨_, pe_notT pe_W, ?_⟩⟩
  refine ha.go R (Stp.refl R.ok) hp fun x s1 u w1 f1 fp1 R1 r1 n1 S1 hp1 => ?_
  obtain ⟨d, k0, ⟨g, i1, _⟩, hp1⟩ := look_go hp1 R1 r1
  obtain ⟨c, ef, hp1⟩ := opt_go hp1
  exact ⟨c, truB_ok (i1.vw R1.ok) ef, hp1 (.bl (!c)) w1 [] fp1 R1 OpR_bl R1.nd S1.dropL⟩
theorem ce_one {op : BoolOp} {a : Expr} {m : M Op} {pos : Pos} (h : CE X wx a m) : CE X wx (.BoolOp op [a] pos) m := ⟨fun s0 s st w fp Q R hp => let ⟨t, ht, q⟩ := h.run s0 s st w fp Q R hp; ⟨t, pe_one ht, q⟩⟩
theorem ce_and {a b : Expr} {rest : List Expr} {m n : M Op} {pos : Pos} (ha : CE X wx a m) (hb : CE X wx (.BoolOp .And (b :: rest) pos) n) : CE X wx (.BoolOp .And (a :: b :: rest) pos) (andV m n) := by
  refine ⟨fun s0 s st w fp Q R hp => ⟨_, pe_andT pe_W pe_W, ?_⟩⟩
  refine ha.go R (Stp.refl R.ok) hp fun x s1 u w1 f1 fp1 R1 r1 n1 S1 hp1 => ?_
  obtain ⟨d, k0, ⟨g, i1, _⟩, hp1⟩ := look_go hp1 R1 r1
  obtain ⟨c, ef, hp1⟩ := opt_go hp1
  refine ⟨c, truB_ok (i1.vw R1.ok) ef, ?_⟩
  cases c with
  | true =>
    rw [if_pos rfl]
    exact hb.on R1 S1.dropL hp1
  | false =>
    rw [if_neg Bool.false_ne_true]
    exact hp1 u w1 f1 fp1 R1 r1 n1 S1
theorem ce_or {a b : Expr} {rest : List Expr} {m n : M Op} {pos : Pos} (ha : CE X wx a m) (hb : CE X wx (.BoolOp .Or (b :: rest) pos) n) : CE X wx (.BoolOp .Or (a :: b :: rest) pos) (orV m n) := by
  refine ⟨fun s0 s st w fp Q R hp => ⟨_, pe_orT pe_W pe_W, ?_⟩⟩
  refine ha.go R (Stp.refl R.ok) hp fun x s1 u w1 f1 fp1 R1 r1 n1 S1 hp1 => ?_
  obtain ⟨d, k0, ⟨g, i1, _⟩, hp1⟩ := look_go hp1 R1 r1
  obtain ⟨c, ef, hp1⟩ := opt_go hp1
  refine ⟨c, truB_ok (i1.vw R1.ok) ef, ?_⟩
  cases c with
  | true =>
    rw [if_pos rfl]
    exact hp1 u w1 f1 fp1 R1 r1 n1 S1
  | false =>
    rw [if_neg Bool.false_ne_true]
    exact hb.on R1 S1.dropL hp1
theorem ce_if {c a b : Expr} {mc : M Bool} {ma mb : M Op} {pos : Pos} (hc : CT X wx c mc) (ha : CE X wx a ma) (hb : CE X wx b mb) : CE X wx (.IfExp c a b pos) (ifV mc ma mb) := by
  refine ⟨fun s0 s st w fp Q R hp => ⟨_, pe_ifExp pt_W pe_W pe_W, ?_⟩⟩
  refine hc.go R (Stp.refl R.ok) hp fun k s1 b' w1 f1 fp1 R1 r1 n1 S1 hp1 => ?_
  obtain ⟨rfl, rfl⟩ := r1
  cases k with
  | true =>
    rw [if_pos rfl]
    exact ha.on R1 S1 hp1
  | false =>
    rw [if_neg Bool.false_ne_true]
    exact hb.on R1 S1 hp1

/-! ### several operands -/
def evN : M (List Op) := ret []
def evC (m : M Op) (ms : M (List Op)) : M (List Op) := bnd m fun o => bnd ms fun os => ret (o :: os)
theorem ca_nil : CA X wx [] evN := ⟨fun s0 s st w fp Q R hp => ⟨_, pa_nil, hp [] w [] fp R rfl R.nd (Stp.refl R.ok)⟩⟩
theorem all3_dom {ops : List Op} {vs : List V} {f : List Addr} (h : All3 (OpR X.K st w) ops vs f) : ∀ x ∈ f, w.H x ≠ none ∧ w.F x = none := fun x hx => by
  obtain ⟨a, b, f', _, q, m⟩ := h.mem hx
  exact OpR.dom q x m
theorem all3_stp {ops : List Op} {vs : List V} {f : List Addr} {w' : Wd} {fp' : List Addr} (h : All3 (OpR X.K st w) ops vs f) (S : Stp w fp w' fp') (hd : ∀ x ∈ f, x ∉ fp) : All3 (OpR X.K st w') ops vs f :=
  h.imp fun a b f' _ hf q => OpR.stp q S fun x hx => hd x (hf x hx)
theorem ca_cons {e : Expr} {es : List Expr} {m : M Op} {ms : M (List Op)} (h : CE X wx e m) (hs : CA X wx es ms) (he : starEach (e :: es) X.env = (false, eval e X.env) :: starEach es X.env := by rfl) : CA X wx (e :: es) (evC m ms) := by
  refine ⟨fun s0 s st w fp Q R hp => ⟨_, pa_cons pe_W pa_W he, ?_⟩⟩
  refine h.go R (Stp.refl R.ok) hp fun o s1 u w1 f1 fp1 R1 r1 n1 S1 hp1 => ?_
  refine hs.go R1 S1.dropL hp1 fun os s2 vs w2 f2 fp2 R2 r2 n2 S2 hp2 => ?_
  have r1' : OpR X.K st w2 o u f1 := OpR.stp r1 S2 (nd_dis n1)
  have n3 : (f1 ++ (f2 ++ fp2)).Nodup := S2.nodup n1 (fun z hz => (OpR.dom r1 z hz).1) n2
  exact hp2 (u :: vs) w2 (f1 ++ f2) fp2 R2 ⟨f1, f2, rfl, r1', r2⟩ (by rw [List.append_assoc]; exact n3) (by rw [List.append_assoc]; exact S1.trans S2.beside)
def fzo (o : Op) : M D := bnd (own o) fun p => if fzOk p.2 p.1 then ret p.1 else stuck
def fzos : List Op → M (List D)
  | [] => ret []
  | o :: os => bnd (fzo o) fun d => bnd (fzos os) fun ds => ret (d :: ds)
theorem own_no {o : Op} {x : Exn} : own o s ≠ .ex x s' := by
  intro e
  cases o with
  | val d k => cases e
  | slot i =>
    unfold own at e
    dsimp only at e
    split at e
    · split at e <;> cases e
    · cases e
theorem fzo_go {γ δ : Type} {R2 : γ → δ → Wd → List Addr → Prop} {o : Op} {f : D → M γ} {Q : δ → Hp → Prop} {v : V} (hp : Post X wx R2 s0 st w0 fp0 (bnd (fzo o) f s) Q) (R : Rel X.K s0 s st w fp) (h : OpR X.K st w o v fo) (n : (fo ++ fp).Nodup) :
    ∃ d s1 w1 fp1, Rel X.K s0 s1 st w1 fp1 ∧ Vx (w1.fz X.K) d v ∧ Stp w (fo ++ fp) w1 fp1 ∧ w1.H = w.H ∧ w1.N = w.N ∧ (∀ x ∈ fp1, x ∈ fp) ∧ Post X wx R2 s0 st w0 fp0 (f d s1) Q := by
  unfold fzo at hp
  unfold bnd at hp
  cases ho : own o s with
  | no =>
    rw [ho] at hp
    exact hp.elim
  | ex x s1 => exact (own_no ho).elim
  | ok p s1 =>
    obtain ⟨d, k⟩ := p
    rw [ho] at hp
    obtain ⟨w1, fo1, fp1, R1, ow1, nd1, S1, sb1, sb2, eH, eN⟩ := own_ok R h n ho
    dsimp only at hp
    by_cases hz : fzOk k d = true
    · rw [if_pos hz] at hp
      have vx := frz_vx R1.ok fo1 (fun _ m => m) hz ow1
      have c : ∀ x ∈ fp1, ∀ o, w1.H x = some o → w1.F x = none → (w1.frz fo1).H x = some o ∧ (w1.frz fo1).F x = none := fun x hx o ho n => ⟨ho, by
        show (if x ∈ fo1 then w1.H x else w1.F x) = none
        rw [if_neg fun m => nd_dis nd1 x m hx]
        exact n⟩
      refine ⟨d, s1, w1.frz fo1, fp1, R1.keep (frz_le R1.ok fo1) (Wd.frz_ok R1.ok fo1) rfl c, vx, S1.trans (frz_stp R1.ok (fun x m => List.mem_append_left _ m) fun x m => List.mem_append_right _ m), eH, eN, sb2, hp⟩
    · rw [if_neg hz] at hp
      exact hp.elim
theorem fzos_go {γ δ : Type} {R2 : γ → δ → Wd → List Addr → Prop} {Q : δ → Hp → Prop} : ∀ {os : List Op} {f : List D → M γ} {s : Sx} {w : Wd} {fp fo : List Addr} {vs : List V}, Post X wx R2 s0 st w0 fp0 (bnd (fzos os) f s) Q → Rel X.K s0 s st w fp → All3 (OpR X.K st w) os vs fo → (fo ++ fp).Nodup →
    ∃ ds s1 w1 fp1, Rel X.K s0 s1 st w1 fp1 ∧ VxL (w1.fz X.K) ds vs ∧ Stp w (fo ++ fp) w1 fp1 ∧ w1.H = w.H ∧ w1.N = w.N ∧ (∀ x ∈ fp1, x ∈ fp) ∧ Post X wx R2 s0 st w0 fp0 (f ds s1) Q
  | [], f, s, w, fp, fo, vs, hp, R, h, n => by
    cases vs with
    | cons _ _ => exact h.elim
    | nil =>
      have e : fo = [] := h
      subst e
      exact ⟨[], s, w, fp, R, rfl, Stp.refl R.ok, rfl, rfl, fun _ m => m, hp⟩
  | o :: os, f, s, w, fp, fo, vs, hp, R, h, n => by
    cases vs with
    | nil => exact h.elim
    | cons v vs =>
      obtain ⟨f1, f2, e, h1, h2⟩ := h
      subst e
      have n' : (f1 ++ (f2 ++ fp)).Nodup := by rw [← List.append_assoc]; exact n
      have n1 : (f1 ++ fp).Nodup := by
        simp only [List.nodup_append, List.mem_append] at n' ⊢
        grind
      have n2 : (f2 ++ (f1 ++ fp)).Nodup := by
        simp only [List.nodup_append, List.mem_append] at n' ⊢
        grind
      have hp' : Post X wx R2 s0 st w0 fp0 (bnd (fzo o) (fun d => bnd (fzos os) fun ds => f (d :: ds)) s) Q := by
        have e : bnd (fzos (o :: os)) f = bnd (fzo o) fun d => bnd (fzos os) fun ds => f (d :: ds) := by
          funext s
          show bnd (bnd (fzo o) fun d => bnd (fzos os) fun ds => ret (d :: ds)) f s = _
          unfold bnd ret
          cases fzo o s with
          | ok d s1 =>
            dsimp only
            cases fzos os s1 <;> rfl
          | ex x s1 => rfl
          | no => rfl
        rw [← e]
        exact hp
      obtain ⟨d, s1, w1, fp1, R1, vx1, S1, eH, eN, sb, hp1⟩ := fzo_go hp' R h1 n1
      have h2' : All3 (OpR X.K st w1) os vs f2 := all3_stp h2 S1 (nd_dis n2)
      have n3 : (f2 ++ fp1).Nodup := List.nodup_append.mpr ⟨(List.nodup_append.mp n2).1, R1.nd, fun x hx y hy e => by
        subst e
        exact nd_dis n2 x hx (List.mem_append_right _ (sb x hy))⟩
      obtain ⟨ds, s2, w2, fp2, R2', vx2, S2, eH2, eN2, sb2, hp2⟩ := fzos_go hp1 R1 h2' n3
      refine ⟨d :: ds, s2, w2, fp2, R2', ⟨v, vs, rfl, Vx.mono S2.fz _ _ vx1, vx2⟩, ?_, eH2.trans eH, eN2.trans eN, fun x m => sb x (sb2 x m), hp2⟩
      have S1' : Stp w (f2 ++ (f1 ++ fp)) w1 (f2 ++ fp1) := S1.beside
      exact (S1'.more fun x m => by
        simp only [List.mem_append] at m ⊢
        grind).trans S2
/-- (a, b), [a, b] -/
def tupM (ms : M (List Op)) : M Op := bnd ms fun os => bnd (fzos os) fun ds => if ds.length ≤ cap then ret (.val (.tup ds) 0) else stuck
def lstM (ms : M (List Op)) : M Op := bnd ms fun os => bnd (fzos os) fun ds => if ds.length ≤ cap then ret (.val (.lst ds) 1) else stuck
theorem ce_tup {es : List Expr} {ms : M (List Op)} {x1 : Nat} {pos : Pos} (h : CA X wx es ms) : CE X wx (.Tuple es x1 pos) (tupM ms) := by
  refine ⟨fun s0 s st w fp Q R hp => ⟨_, pe_tup pa_W, ?_⟩⟩
  refine h.go R (Stp.refl R.ok) hp fun os s1 vs w1 f1 fp1 R1 r1 n1 S1 hp1 => ?_
  obtain ⟨ds, s2, w2, fp2, R2, vx, S2, eH, eN, sb, hp2⟩ := fzos_go hp1 R1 r1 n1
  by_cases hl : ds.length ≤ cap
  · rw [if_pos hl] at hp2
    rw [← eH]
    exact ⟨by rw [vx.length]; exact cap_line hl, fun p hpn => (res_end (g := []) hp2 R2 (S1.trans S2)).tup R2.ok vx hpn⟩
  · rw [if_neg hl] at hp2
    exact hp2.elim
theorem ce_lst {es : List Expr} {ms : M (List Op)} {pos : Pos} (h : CA X wx es ms) : CE X wx (.List es pos) (lstM ms) := by
  refine ⟨fun s0 s st w fp Q R hp => ⟨_, pe_lst pa_W, ?_⟩⟩
  refine h.go R (Stp.refl R.ok) hp fun os s1 vs w1 f1 fp1 R1 r1 n1 S1 hp1 => ?_
  obtain ⟨ds, s2, w2, fp2, R2, vx, S2, eH, eN, sb, hp2⟩ := fzos_go hp1 R1 r1 n1
  by_cases hl : ds.length ≤ cap
  · rw [if_pos hl] at hp2
    rw [← eH]
    exact ⟨by rw [vx.length]; exact cap_line hl, fun p hpn => (res_end (g := []) hp2 R2 (S1.trans S2)).lst R2.ok vx hpn⟩
  · rw [if_neg hl] at hp2
    exact hp2.elim
end
end Mi

set_option Elab.async false
set_option linter.all false
set_option maxRecDepth 100000
set_option maxHeartbeats 4000000
namespace Mi
open PySem L2

/-! ### statements -/
inductive Flow where
  | nx | bk | ct | rt (d : D) (k : Nat)
section
variable (X : Cx) (wx : WX)
def PostXS (s0 : St) (w : Wd) (fp : List Addr) (x : Exn) (s' : Sx) : Prop := ∀ c dx st' w' fp', Rel X.K s0 s' st' w' fp' → Stp w fp w' fp' → ExR X.K w' x c dx → wx c dx st' w'.H
def PostS (s0 : St) (w : Wd) (fp : List Addr) (r : Rs Flow) (E : Ends) : Prop := match r with
  | .ok .nx s' => ∀ st' w' fp', Rel X.K s0 s' st' w' fp' → Stp w fp w' fp' → E.nx st' w'.H
  | .ok .bk s' => ∀ st' w' fp', Rel X.K s0 s' st' w' fp' → Stp w fp w' fp' → E.bk st' w'.H
  | .ok .ct s' => ∀ st' w' fp', Rel X.K s0 s' st' w' fp' → Stp w fp w' fp' → E.ct st' w'.H
  | .ok (.rt d k) s' => ∀ v st' w' fo fp', Rel X.K s0 s' st' w' fp' → Ow X.K w' k d v fo → (fo ++ fp').Nodup → Stp w fp w' (fo ++ fp') → E.rt v w'.H
  | .ex x s' => PostXS X wx s0 w fp x s'
  | .no => False
structure CS (c : Stmt) (m : M Flow) : Prop where
  run : ∀ s0 s st w fp E, Rel X.K s0 s st w fp → PostS X wx s0 w fp (m s) E → WS X c E st w.H
structure CSs (c : List Stmt) (m : M Flow) : Prop where
  run : ∀ s0 s st w fp E, Rel X.K s0 s st w fp → PostS X wx s0 w fp (m s) E → WSs X c E st w.H
/-- only the slots ts may have changed -/
def Same (ts : List Nat) (st st' : St) : Prop := st'.length = st.length ∧ ∀ j : Nat, j ∉ ts → st'[j]? = st[j]?
def PostG (s0 st : St) (ts : List Nat) (w : Wd) (fp : List Addr) (r : Rs Unit) (Q : St → Hp → Prop) : Prop := match r with
  | .ok _ s' => ∀ st' w' fp', Same ts st st' → Rel X.K s0 s' st' w' fp' → Stp w fp w' fp' → Q st' w'.H
  | _ => False
/-- a target: the datum, owned to the depth k, is stored -/
structure CG (tg : Expr) (f : D → Nat → M Unit) (ts : List Nat) : Prop where
  run : ∀ s0 s st w fp v d k fo Q, Rel X.K s0 s st w fp → Ow X.K w k d v fo → (fo ++ fp).Nodup → PostG X s0 st ts w (fo ++ fp) (f d k s) Q → WG X tg v st w.H Q
  noex : ∀ d k s x s', f d k s ≠ .ex x s'
structure CGs (tg : List Expr) (f : List D → M Unit) (ts : List Nat) : Prop where
  run : ∀ s0 s st w fp vs ds Q, Rel X.K s0 s st w fp → VxL (w.fz X.K) ds vs → PostG X s0 st ts w fp (f ds s) Q → WGs X tg vs st w.H Q
  noex : ∀ ds s x s', f ds s ≠ .ex x s'
end
def seqM (a b : M Flow) : M Flow := bnd a fun f => match f with
  | .nx => b
  | f => ret f
def asgM (i : Nat) (m : M Op) : M Flow := bnd m fun o => bnd (own o) fun p => fun s => match s.r[i]? with
  | some (some sl) => if sl.pin then .no else .ok .nx { s with r := s.r.set i (some ⟨p.1, p.2, false⟩) }
  | some none => .ok .nx { s with r := s.r.set i (some ⟨p.1, p.2, false⟩) }
  | none => .no
/-- out of the frame: moved, where it isn't borrowed -/
def mov : Op → M (D × Nat)
  | .val d k => ret (d, k)
  | .slot i => fun s => match s.r[i]? with
    | some (some sl) => if sl.k = 0 then .ok (sl.d, 0) s else if sl.pin then own (.slot i) s else .ok (sl.d, sl.k) { s with r := s.r.set i none }
    | _ => .no
def rtM (m : M Op) : M Flow := bnd m fun o => bnd (mov o) fun p => ret (.rt p.1 p.2)
def exM (m : M Op) : M Flow := bnd m fun _ => ret .nx
def ifS (c : M Bool) (a b : M Flow) : M Flow := bnd c fun k => if k then a else b
section
variable {X : Cx} {wx : WX} {s0 st : St} {s s' : Sx} {w w0 w1 : Wd} {fp fp0 fp1 fo g : List Addr} {E : Ends}
theorem PostXS.from {x : Exn} (h : PostXS X wx s0 w0 fp0 x s') (S : Stp w0 fp0 w fp) : PostXS X wx s0 w fp x s' := fun c dx st' w' fp' R S' e => h c dx st' w' fp' R (S.trans S') e
theorem PostS.from {r : Rs Flow} (h : PostS X wx s0 w0 fp0 r E) (S : Stp w0 fp0 w fp) : PostS X wx s0 w fp r E := by
  cases r with
  | ok f s' =>
    cases f with
    | nx => exact fun st' w' fp' R S' => h st' w' fp' R (S.trans S')
    | bk => exact fun st' w' fp' R S' => h st' w' fp' R (S.trans S')
    | ct => exact fun st' w' fp' R S' => h st' w' fp' R (S.trans S')
    | rt d k => exact fun v st' w' fo fp' R o n S' => h v st' w' fo fp' R o n (S.trans S')
  | ex x s' => exact PostXS.from h S
  | no => exact h
theorem Post.toX {α β : Type} {RR : α → β → Wd → List Addr → Prop} {x : Exn} {Q : β → Hp → Prop} (h : PostXS X wx s0 w fp x s') : Post X wx RR s0 st w fp (.ex x s') Q := fun c dx w' fp' R S e => h c dx st w' fp' R S e
/-- an expression within a statement -/
theorem CJ.goS {α β : Type} {J : St → Hp → (β → Hp → Prop) → Prop} {RR : St → α → β → Wd → List Addr → Prop} {m : M α} {f : α → M Flow} {Kk : β → Hp → Prop} (h : CJ X wx J RR m) (R : Rel X.K s0 s st w fp) (hp : PostS X wx s0 w fp (bnd m f s) E)
    (k : ∀ a s1 b w1 fo fp1, Rel X.K s0 s1 st w1 fp1 → RR st a b w1 fo → (fo ++ fp1).Nodup → Stp w fp w1 (fo ++ fp1) → PostS X wx s0 w fp (f a s1) E → Kk b w1.H) : J st w.H Kk := by
  refine h.run s0 s st w fp Kk R ?_
  unfold bnd at hp
  cases hm : m s with
  | ok a s1 =>
    rw [hm] at hp
    exact fun b w1 fo fp1 R1 r n S1 => k a s1 b w1 fo fp1 R1 r n S1 hp
  | ex x s1 =>
    rw [hm] at hp
    exact Post.toX hp
  | no =>
    rw [hm] at hp
    exact hp.elim
theorem css_nil : CSs X wx [] (ret .nx) := ⟨fun s0 s st w fp E R hp => ⟨_, pss_nil, hp st w fp R (Stp.refl R.ok)⟩⟩
theorem css_cons {c : Stmt} {cs : List Stmt} {m n : M Flow} (h : CS X wx c m) (hs : CSs X wx cs n) : CSs X wx (c :: cs) (seqM m n) := by
  refine ⟨fun s0 s st w fp E R hp => ⟨_, pss_cons ps_W pss_W, ?_⟩⟩
  refine h.run s0 s st w fp _ R ?_
  unfold seqM bnd at hp
  cases hm : m s with
  | ok f s1 =>
    rw [hm] at hp
    cases f with
    | nx => exact fun st' w' fp' R' S' => hs.run s0 s1 st' w' fp' E R' (PostS.from hp S')
    | bk => exact hp
    | ct => exact hp
    | rt d k => exact hp
  | ex x s1 =>
    rw [hm] at hp
    exact hp
  | no =>
    rw [hm] at hp
    exact hp
theorem css_one {c : Stmt} {m : M Flow} (h : CS X wx c m) : CSs X wx [c] m := ⟨fun s0 s st w fp E R hp => let ⟨t, ht, q⟩ := h.run s0 s st w fp E R hp; ⟨t, pss_one ht, q⟩⟩
theorem cs_pass {pos : Pos} : CS X wx (.Pass pos) (ret .nx) := ⟨fun s0 s st w fp E R hp => ⟨_, ps_pass, hp st w fp R (Stp.refl R.ok)⟩⟩
theorem cs_break {pos : Pos} : CS X wx (.Break pos) (ret .bk) := ⟨fun s0 s st w fp E R hp => ⟨_, ps_break, hp st w fp R (Stp.refl R.ok)⟩⟩
theorem cs_cont {pos : Pos} : CS X wx (.Continue pos) (ret .ct) := ⟨fun s0 s st w fp E R hp => ⟨_, ps_continue, hp st w fp R (Stp.refl R.ok)⟩⟩
theorem ownS_go {o : Op} {f : D × Nat → M Flow} {v : V} (hp : PostS X wx s0 w0 fp0 (bnd (own o) f s) E) (R : Rel X.K s0 s st w fp) (h : OpR X.K st w o v fo) (n : (fo ++ fp).Nodup) :
    ∃ d k s1 w1 fo1 fp1, Rel X.K s0 s1 st w1 fp1 ∧ Ow X.K w1 k d v fo1 ∧ (fo1 ++ fp1).Nodup ∧ Stp w (fo ++ fp) w1 (fo1 ++ fp1) ∧ w1.H = w.H ∧ PostS X wx s0 w0 fp0 (f (d, k) s1) E := by
  unfold bnd at hp
  cases ho : own o s with
  | no =>
    rw [ho] at hp
    exact hp.elim
  | ex x s1 => exact (own_no ho).elim
  | ok p s1 =>
    obtain ⟨d, k⟩ := p
    rw [ho] at hp
    obtain ⟨w1, fo1, fp1, R1, ow1, nd1, S1, sb1, sb2, eH, eN⟩ := own_ok R h n ho
    exact ⟨d, k, s1, w1, fo1, fp1, R1, ow1, nd1, S1, eH, hp⟩
/-- a slot is stored -/
theorem Rel.set {i : Nat} {v : V} {d : D} {k : Nat} {old : Option Slot} (R : Rel X.K s0 s st w fp) (hi : s.r[i]? = some old) (hpin : ∀ sl, old = some sl → sl.pin = false) (ow : Ow X.K w k d v fo) (n : (fo ++ fp).Nodup) :
    ∃ fp', Rel X.K s0 { s with r := s.r.set i (some ⟨d, k, false⟩) } (st.set i (some v)) w fp' ∧ ∀ x ∈ fp', x ∈ fo ++ fp := by
  obtain ⟨fe, fs, ef, q1, q2⟩ := R.parts
  obtain ⟨b, f1, f, f2, hb, hf, hp, hset⟩ := q1.at hi
  have q3 := hset (some ⟨d, k, false⟩) (some v) fo ow
  have hl := q1.len
  have hil : i < s.r.length := (List.getElem?_eq_some_iff.mp hi).1
  have n' : (fo ++ (f1 ++ f ++ f2 ++ fs)).Nodup := by rw [← hf, ← ef]; exact n
  refine ⟨f1 ++ fo ++ f2 ++ fs, ⟨R.ok, R.N, ⟨_, fs, rfl, q3, q2⟩, ?_, fun j sl hj hpj => ?_⟩, fun x m => ?_⟩
  · simp only [List.nodup_append, List.mem_append] at n' ⊢
    grind
  · by_cases hji : j = i
    · subst hji
      have hj' : (s.r.set j (some ⟨d, k, false⟩))[j]? = some (some sl) := hj
      rw [List.getElem?_set_self hil] at hj'
      cases hj'
      cases hpj
    · have hj' : (s.r.set i (some ⟨d, k, false⟩))[j]? = some (some sl) := hj
      rw [List.getElem?_set_ne (Ne.symm hji)] at hj'
      obtain ⟨u, h1, h2⟩ := R.pin j sl hj' hpj
      exact ⟨u, by rw [List.getElem?_set_ne (Ne.symm hji)]; exact h1, h2⟩
  · rw [ef, hf]
    simp only [List.mem_append] at m ⊢
    grind
def setM (i : Nat) (d : D) (k : Nat) : M Unit := fun s => match s.r[i]? with
  | some (some sl) => if sl.pin then .no else .ok () { s with r := s.r.set i (some ⟨d, k, false⟩) }
  | some none => .ok () { s with r := s.r.set i (some ⟨d, k, false⟩) }
  | none => .no
theorem setM_ok {i : Nat} {d : D} {k : Nat} {u : Unit} (h : setM i d k s = .ok u s') : s' = { s with r := s.r.set i (some ⟨d, k, false⟩) } ∧ ∃ old, s.r[i]? = some old ∧ ∀ sl, old = some sl → sl.pin = false := by
  unfold setM at h
  split at h
  · rename_i sl e
    split at h
    · cases h
    · rename_i hp
      cases h
      refine ⟨rfl, _, e, fun sl' z => ?_⟩
      cases z
      simpa using hp
  · rename_i e
    cases h
    exact ⟨rfl, _, e, fun sl' z => nomatch z⟩
  · cases h
theorem cg_name {i : Nat} {x : Str} {pos : Pos} (hN : X.N.Nodup) (hi : X.N[i]? = some x) (hx : Loc X.env.scope x) (hf : X.fn x = true ∨ X.env.scope.names.lookup x = some .local := by first | exact .inl rfl | exact .inr rfl | assumption) : CG X (.Name x pos) (setM i) [i] := by
  refine ⟨fun s0 s st w fp v d k fo Q R ow n hp => ⟨_, pg_name hN hi hx hf, ?_⟩, fun d k s x s' e => by
    unfold setM at e
    split at e
    · split at e <;> cases e
    · cases e
    · cases e⟩
  cases hs : setM i d k s with
  | ok u s' =>
    rw [hs] at hp
    obtain ⟨rfl, old, h1, h2⟩ := setM_ok hs
    obtain ⟨fp', R', sb⟩ := R.set h1 h2 ow n
    exact hp _ w fp' ⟨List.length_set .., fun j hj => List.getElem?_set_ne fun e => hj (by rw [e]; exact List.mem_singleton_self _)⟩ R' ((Stp.refl R.ok).sub sb)
  | ex x s' =>
    rw [hs] at hp
    exact hp.elim
  | no =>
    rw [hs] at hp
    exact hp.elim
def setsN : List D → M Unit
  | [] => ret ()
  | _ :: _ => stuck
def setsC (f : D → Nat → M Unit) (g : List D → M Unit) : List D → M Unit
  | [] => stuck
  | d :: ds => bnd (f d 0) fun _ => g ds
def tupG (n : Nat) (g : List D → M Unit) : D → Nat → M Unit
  | .tup ds, _ => if ds.length = n then g ds else stuck
  | .lst ds, k => if ds.length = n ∧ k ≤ 1 then g ds else stuck
  | _, _ => stuck
theorem cgs_nil : CGs X [] setsN [] := by
  refine ⟨fun s0 s st w fp vs ds Q R h hp => ⟨_, pgs_nil, ?_⟩, fun ds s x s' e => by cases ds <;> cases e⟩
  cases ds with
  | nil => exact ⟨h, hp st w fp ⟨rfl, fun _ _ => rfl⟩ R (Stp.refl R.ok)⟩
  | cons d ds => exact hp.elim
theorem cgs_cons {e : Expr} {es : List Expr} {f : D → Nat → M Unit} {g : List D → M Unit} {ts us : List Nat} (h : CG X e f ts) (hs : CGs X es g us) (ha : (assignEach (e :: es) X.env).map (·.2) = assign e X.env :: (assignEach es X.env).map (·.2) := by rfl) : CGs X (e :: es) (setsC f g) (ts ++ us) := by
  refine ⟨fun s0 s st w fp vs ds Q R hv hp => ⟨_, pgs_cons pg_W pgs_W ha, ?_⟩, fun ds s x s' e => by
    cases ds with
    | nil => cases e
    | cons d ds =>
      have e' : bnd (f d 0) (fun _ => g ds) s = .ex x s' := e
      unfold bnd at e'
      cases hf : f d 0 s with
      | ok u s1 =>
        rw [hf] at e'
        exact hs.noex _ _ _ _ e'
      | ex y s1 => exact h.noex _ _ _ _ _ hf
      | no =>
        rw [hf] at e'
        cases e'⟩
  cases ds with
  | nil => exact hp.elim
  | cons d ds =>
    obtain ⟨v, t, e1, h1, h2⟩ := hv
    refine ⟨v, t, e1, ?_⟩
    refine h.run s0 s st w fp v d 0 [] _ R ⟨h1, rfl⟩ R.nd ?_
    have hp' : PostG X s0 st (ts ++ us) w fp (bnd (f d 0) (fun _ => g ds) s) Q := hp
    unfold bnd at hp'
    cases hf : f d 0 s with
    | ok u s' =>
      rw [hf] at hp'
      intro st' w' fp' sm R' S'
      refine hs.run s0 s' st' w' fp' t ds Q R' (VxL.mono S'.fz _ _ h2) ?_
      cases hg : g ds s' with
      | ok u2 s2 =>
        have hp2 : PostG X s0 st (ts ++ us) w fp (g ds s') Q := hp'
        rw [hg] at hp2
        exact fun st2 w2 fp2 sm2 R2 S2 => hp2 st2 w2 fp2 ⟨sm2.1.trans sm.1, fun j hj => (sm2.2 j fun m => hj (List.mem_append_right _ m)).trans (sm.2 j fun m => hj (List.mem_append_left _ m))⟩ R2 (S'.trans S2)
      | ex x s2 =>
        have hp2 : PostG X s0 st (ts ++ us) w fp (g ds s') Q := hp'
        rw [hg] at hp2
        exact hp2.elim
      | no =>
        have hp2 : PostG X s0 st (ts ++ us) w fp (g ds s') Q := hp'
        rw [hg] at hp2
        exact hp2.elim
    | ex x s' =>
      rw [hf] at hp'
      exact hp'.elim
    | no =>
      rw [hf] at hp'
      exact hp'.elim
theorem PostG.more {s0 st : St} {ts : List Nat} {w : Wd} {fp gp : List Addr} {r : Rs Unit} {Q : St → Hp → Prop} (h : PostG X s0 st ts w gp r Q) (hs : ∀ x ∈ fp, x ∈ gp) : PostG X s0 st ts w fp r Q := by
  cases r with
  | ok u s' => exact fun st' w' fp' sm R' S' => h st' w' fp' sm R' (S'.more hs)
  | ex x s' => exact h
  | no => exact h
theorem cg_tup {es : List Expr} {k : Nat} {g : List D → M Unit} {n : Nat} {ts : List Nat} {pos : Pos} (hc : X.calm = true) (h : CGs X es g ts) (hn : (assignEach es X.env).length = n := by rfl) (hst : (assignEach es X.env).findIdx? (·.1) = none := by rfl) : CG X (.Tuple es k pos) (tupG n g) ts := by
  refine ⟨fun s0 s st w fp v d k fo Q R ow nd hp => ?_, fun d k s x s' e => by
    cases d with
    | tup ds =>
      have e' : (if ds.length = n then g ds else stuck) s = .ex x s' := e
      split at e'
      · exact h.noex _ _ _ _ e'
      · cases e'
    | lst ds =>
      have e' : (if ds.length = n ∧ k ≤ 1 then g ds else stuck) s = .ex x s' := e
      split at e'
      · exact h.noex _ _ _ _ e'
      · cases e'
    | _ => cases e⟩
  cases d with
  | tup ds =>
    refine ⟨_, pg_tup hc pgs_W hn hst, ?_⟩
    have hv : Vx (w.fz X.K) (.tup ds) v ∧ fo = [] := by
      cases k with
      | zero => exact ow
      | succ k => exact ow
    obtain ⟨⟨a, xs, e1, q, t⟩, rfl⟩ := hv
    have hp' : PostG X s0 st ts w fp ((if ds.length = n then g ds else stuck) s) Q := hp
    by_cases hl : ds.length = n
    · rw [if_pos hl] at hp'
      exact ⟨a, xs, e1, SqT.of (R.ok a _ q), by rw [t.length]; exact hl, h.run s0 s st w fp xs ds Q R t hp'⟩
    · rw [if_neg hl] at hp'
      exact hp'.elim
  | lst ds =>
    refine ⟨_, pg_lst hc pgs_W hn hst, ?_⟩
    have hp' : PostG X s0 st ts w (fo ++ fp) ((if ds.length = n ∧ k ≤ 1 then g ds else stuck) s) Q := hp
    by_cases hl : ds.length = n ∧ k ≤ 1
    · rw [if_pos hl] at hp'
      obtain ⟨a, xs, e1, q, t⟩ := ow.itv R.ok hl.2
      exact ⟨a, xs, e1, .inl (.inl q), by rw [t.length]; exact hl.1, h.run s0 s st w fp xs ds Q R t (hp'.more fun x m => List.mem_append_right _ m)⟩
    · rw [if_neg hl] at hp'
      exact hp'.elim
  | _ => exact hp.elim
/-- target = value -/
def stM (f : D → Nat → M Unit) (m : M Op) : M Flow := bnd m fun o => bnd (own o) fun p => bnd (f p.1 p.2) fun _ => ret .nx
theorem cs_asg {tg e : Expr} {f : D → Nat → M Unit} {m : M Op} {ts : List Nat} {pos : Pos} (he : CE X wx e m) (hg : CG X tg f ts) (hs : swapsWithSole [tg] e pos.line X.env = pure false := by rfl) (hw : swappedStores [tg] e X.env = pure none := by rfl)
    (h1 : (assignEach [tg] X.env).map (·.2) = [assign tg X.env] := by rfl) : CS X wx (.Assign [tg] e pos) (stM f m) := by
  refine ⟨fun s0 s st w fp E R hp => ⟨_, ps_asg pe_W pg_W hs hw h1, ?_⟩⟩
  refine he.goS R hp fun o s1 v w1 f1 fp1 R1 r1 n1 S1 hp1 => ?_
  obtain ⟨d, k, s2, w2, f2, fp2, R2, ow, n2, S2, eH, hp2⟩ := ownS_go hp1 R1 r1 n1
  rw [← eH]
  refine hg.run s0 s2 st w2 fp2 v d k f2 E.nx R2 ow n2 ?_
  unfold bnd at hp2
  cases hf : f d k s2 with
  | ok u s3 =>
    rw [hf] at hp2
    exact fun st' w' fp' _ R' S' => hp2 st' w' fp' R' ((S1.trans S2).trans S')
  | ex x s3 =>
    -- a target raises nothing
    exact (hg.noex _ _ _ _ _ hf).elim
  | no =>
    rw [hf] at hp2
    exact hp2.elim
theorem mov_go {o : Op} {f : D × Nat → M Flow} {v : V} (hp : PostS X wx s0 w0 fp0 (bnd (mov o) f s) E) (R : Rel X.K s0 s st w fp) (h : OpR X.K st w o v fo) (n : (fo ++ fp).Nodup) :
    ∃ d k s1 w1 fo1 fp1, Rel X.K s0 s1 st w1 fp1 ∧ Ow X.K w1 k d v fo1 ∧ (fo1 ++ fp1).Nodup ∧ Stp w (fo ++ fp) w1 (fo1 ++ fp1) ∧ w1.H = w.H ∧ PostS X wx s0 w0 fp0 (f (d, k) s1) E := by
  cases o with
  | val d k => exact ⟨d, k, s, w, fo, fp, R, h, n, Stp.refl R.ok, rfl, hp⟩
  | slot i =>
    have h0 := h
    obtain ⟨h1, h2⟩ := h
    subst h2
    cases hs : s.r[i]? with
    | none =>
      unfold bnd mov at hp
      dsimp only at hp
      rw [hs] at hp
      exact hp.elim
    | some x =>
      cases x with
      | none =>
        unfold bnd mov at hp
        dsimp only at hp
        rw [hs] at hp
        exact hp.elim
      | some sl =>
        have em : mov (.slot i) s = if sl.k = 0 then .ok (sl.d, 0) s else if sl.pin then own (.slot i) s else .ok (sl.d, sl.k) { s with r := s.r.set i none } := by
          unfold mov
          dsimp only
          rw [hs]
        by_cases hk : sl.k = 0
        · rw [if_pos hk] at em
          have hp' : PostS X wx s0 w0 fp0 (f (sl.d, 0) s) E := by
            unfold bnd at hp
            rw [em] at hp
            exact hp
          obtain ⟨fe, fs, ef, q1, q2⟩ := R.parts
          obtain ⟨b, f1, f', f2, hb, hf, hpp, hset⟩ := q1.at hs
          rw [h1] at hb
          cases hb
          have hpp' : Ow X.K w sl.k sl.d v f' := hpp
          rw [hk] at hpp'
          exact ⟨sl.d, 0, s, w, [], fp, R, ⟨hpp'.1, rfl⟩, n, Stp.refl R.ok, rfl, hp'⟩
        · rw [if_neg hk] at em
          by_cases hpin : sl.pin = true
          · rw [if_pos hpin] at em
            have hp' : PostS X wx s0 w0 fp0 (bnd (own (.slot i)) f s) E := by
              unfold bnd at hp ⊢
              rw [em] at hp
              exact hp
            exact ownS_go hp' R h0 n
          · rw [if_neg hpin] at em
            have hp' : PostS X wx s0 w0 fp0 (f (sl.d, sl.k) { s with r := s.r.set i none }) E := by
              unfold bnd at hp
              rw [em] at hp
              exact hp
            obtain ⟨fe, fs, ef, q1, q2⟩ := R.parts
            obtain ⟨b, f1, f', f2, hb, hf, hpp, hset⟩ := q1.at hs
            rw [h1] at hb
            cases hb
            have q := hset none (some v) [] rfl
            have est : st.set i (some v) = st := by
              apply List.ext_getElem?
              intro j
              by_cases hj : j = i
              · subst hj
                rw [List.getElem?_set_self (List.getElem?_eq_some_iff.mp h1).1, h1]
              · rw [List.getElem?_set_ne (Ne.symm hj)]
            rw [est] at q
            have nd := R.nd
            rw [ef, hf] at nd
            refine ⟨sl.d, sl.k, { s with r := s.r.set i none }, w, f', f1 ++ [] ++ f2 ++ fs, ⟨R.ok, R.N, ⟨_, fs, rfl, q, q2⟩, ?_, fun j sl' hj hpj => ?_⟩, hpp, ?_, (Stp.refl R.ok).sub fun x m => ?_, rfl, hp'⟩
            · simp only [List.append_nil, List.nodup_append, List.mem_append] at nd ⊢
              grind
            · by_cases hji : j = i
              · subst hji
                have hj' : (s.r.set j none)[j]? = some (some sl') := hj
                rw [List.getElem?_set_self (List.getElem?_eq_some_iff.mp hs).1] at hj'
                cases hj'
              · have hj' : (s.r.set i none)[j]? = some (some sl') := hj
                rw [List.getElem?_set_ne (Ne.symm hji)] at hj'
                exact R.pin j sl' hj' hpj
            · simp only [List.append_nil, List.nodup_append, List.mem_append] at nd ⊢
              grind
            · rw [ef, hf]
              simp only [List.append_nil, List.mem_append] at m ⊢
              grind
theorem cs_ret {e : Expr} {m : M Op} {pos : Pos} (he : CE X wx e m) : CS X wx (.Return (some e) pos) (rtM m) := by
  refine ⟨fun s0 s st w fp E R hp => ⟨_, ps_ret pe_W, ?_⟩⟩
  refine he.goS R hp fun o s1 v w1 f1 fp1 R1 r1 n1 S1 hp1 => ?_
  obtain ⟨d, k, s2, w2, f2, fp2, R2, ow, n2, S2, eH, hp2⟩ := mov_go hp1 R1 r1 n1
  rw [← eH]
  exact hp2 v st w2 f2 fp2 R2 ow n2 (S1.trans S2)
theorem cs_retN {pos : Pos} : CS X wx (.Return none pos) (ret (.rt .non 0)) := ⟨fun s0 s st w fp E R hp => ⟨_, ps_retN, hp .non st w [] fp R ⟨rfl, rfl⟩ R.nd (Stp.refl R.ok)⟩⟩
theorem cs_expr {e : Expr} {m : M Op} {pos : Pos} (he : CE X wx e m) (hs : swapsWith e none pos.line X.env = pure false := by rfl) : CS X wx (.Expr e pos) (exM m) := by
  refine ⟨fun s0 s st w fp E R hp => ⟨_, ps_expr pe_W hs, ?_⟩⟩
  exact he.goS R hp fun o s1 v w1 f1 fp1 R1 r1 n1 S1 hp1 => hp1 st w1 fp1 R1 S1.dropL
theorem cs_doc {x : Str} {j : Nat} {pos pos' : Pos} : CS X wx (.Expr (.Constant (.str x) j pos) pos') (ret .nx) := ⟨fun s0 s st w fp E R hp => ⟨_, ps_doc, hp st w fp R (Stp.refl R.ok)⟩⟩
theorem cs_if {c : Expr} {a b : List Stmt} {mc : M Bool} {ma mb : M Flow} {pos : Pos} (hc : CT X wx c mc) (ha : CSs X wx a ma) (hb : CSs X wx b mb) : CS X wx (.If c a b pos) (ifS mc ma mb) := by
  refine ⟨fun s0 s st w fp E R hp => ⟨_, ps_if pt_W pss_W pss_W, ?_⟩⟩
  refine hc.goS R hp fun k s1 k' w1 f1 fp1 R1 r1 n1 S1 hp1 => ?_
  obtain ⟨rfl, rfl⟩ := r1
  cases k with
  | true =>
    rw [if_pos rfl]
    exact ha.run s0 s1 st w1 fp1 E R1 (PostS.from hp1 S1)
  | false =>
    rw [if_neg Bool.false_ne_true]
    exact hb.run s0 s1 st w1 fp1 E R1 (PostS.from hp1 S1)
end
end Mi

set_option Elab.async false
set_option linter.all false
set_option maxRecDepth 100000
set_option maxHeartbeats 4000000
namespace Mi
open PySem L2

/-! ### defs by value -/
inductive FR where
  | ok (d : D) (k : Nat) (outs : List (Option Slot)) (S : List Inst)
  | ex (x : Exn) (outs : List (Option Slot)) (S : List Inst)
  | no
abbrev Fn := List Slot → List Inst → FR
/-- the borrowed ones still stand where they stood -/
def pinsOk : List Slot → List (Option Slot) → Bool
  | [], _ => true
  | a :: as, o :: os => (!a.pin || (match o with
    | some sl => sl.pin
    | none => false)) && pinsOk as os
  | _ :: _, [] => false
def mkFn (n : Nat) (body : M Flow) : Fn := fun args S => match body ⟨args.map some ++ List.replicate (n - args.length) none, S⟩ with
  | .ok f s' => match f with
    | .rt d k => if pinsOk args (s'.r.take args.length) then .ok d k (s'.r.take args.length) s'.S else .no
    | .nx => if pinsOk args (s'.r.take args.length) then .ok .non 0 (s'.r.take args.length) s'.S else .no
    | _ => .no
  | .ex x s' => if pinsOk args (s'.r.take args.length) then .ex x (s'.r.take args.length) s'.S else .no
  | .no => .no
section
variable (K : PySem.W.Frag)
def ArgsR (w : Wd) (args : List Slot) (vs : List V) (fa : List Addr) : Prop := All3 (fun (a : Slot) v f => Ow K w a.k a.d v f) args vs fa
def OutsR (w : Wd) : List Slot → List (Option Slot) → List V → List Addr → Prop
  | [], _, vs, fp => vs = [] ∧ fp = []
  | a :: as, o :: os, v :: vs, fp => ∃ f g, fp = f ++ g ∧ (if a.pin = true then ∃ sl, o = some sl ∧ Ow K w sl.k sl.d v f else f = []) ∧ OutsR w as os vs g
  | _, _, _, _ => False
/-- the promise of a def that does what f says -/
def spOf (np : Nat) (f : Fn) : Sp := fun vs H Q E => vs.length = np ∧ ∃ (w : Wd) (args : List Slot) (S : List Inst) (fa fs : List Addr), w.H = H ∧ w.Ok ∧ w.N = S.length ∧ ArgsR K w args vs fa ∧ InsR K w 0 S fs ∧ (fa ++ fs).Nodup ∧
  match f args S with
  | .ok d k outs S' => ∀ v w' fo fa' fs', Stp w (fa ++ fs) w' (fo ++ (fa' ++ fs')) → w'.N = S'.length → Ow K w' k d v fo → OutsR K w' args outs vs fa' → InsR K w' 0 S' fs' → (fo ++ (fa' ++ fs')).Nodup → Q v w'.H
  | .ex x outs S' => ∀ c dx w' fa' fs', Stp w (fa ++ fs) w' (fa' ++ fs') → w'.N = S'.length → ExR K w' x c dx → OutsR K w' args outs vs fa' → InsR K w' 0 S' fs' → (fa' ++ fs').Nodup → E c dx w'.H
  | .no => False
end
section
variable {K : PySem.W.Frag} {w : Wd}
theorem all3_none : ∀ {n m : Nat}, n = m → All3 (SlR K w) (List.replicate n none) (List.replicate m (none : Option V)) []
  | 0, 0, _ => rfl
  | n + 1, m + 1, h => ⟨[], [], rfl, rfl, all3_none (by omega)⟩
  | 0, m + 1, h => by omega
  | n + 1, 0, h => by omega
theorem args_slots : ∀ {args : List Slot} {vs : List V} {fa : List Addr}, ArgsR K w args vs fa → All3 (SlR K w) (args.map some) (vs.map some) fa
  | [], [], _, h => h
  | a :: as, v :: vs, _, ⟨f, g, e, h, t⟩ => ⟨f, g, e, h, args_slots t⟩
  | [], _ :: _, _, h => h.elim
  | _ :: _, [], _, h => h.elim
theorem all3_split {α β : Type} {P : α → β → List Addr → Prop} : ∀ (n : Nat) {as : List α} {bs : List β} {fp : List Addr}, All3 P as bs fp → ∃ f g, fp = f ++ g ∧ All3 P (as.take n) (bs.take n) f ∧ All3 P (as.drop n) (bs.drop n) g
  | 0, as, bs, fp, h => ⟨[], fp, rfl, rfl, h⟩
  | n + 1, [], [], fp, h => ⟨[], fp, rfl, rfl, h⟩
  | n + 1, a :: as, b :: bs, fp, ⟨f, g, e, h, t⟩ => by
    obtain ⟨f1, g1, e1, h1, h2⟩ := all3_split n t
    exact ⟨f ++ f1, g1, by rw [e, e1, List.append_assoc], ⟨f, f1, rfl, h, h1⟩, h2⟩
  | n + 1, [], _ :: _, _, h => h.elim
  | n + 1, _ :: _, [], _, h => h.elim
theorem outs_of : ∀ {args : List Slot} {outs : List (Option Slot)} {us : List (Option V)} {vs : List V} {f : List Addr}, args.length = vs.length → pinsOk args outs = true → All3 (SlR K w) outs us f → outs.length = args.length →
    (∀ (i : Nat) (sl : Slot), outs[i]? = some (some sl) → sl.pin = true → us[i]? = some (vs[i]?)) → ∃ fa, OutsR K w args outs vs fa ∧ (∀ x ∈ fa, x ∈ f) ∧ (f.Nodup → fa.Nodup)
  | [], outs, us, vs, f, hl, _, _, _, _ => ⟨[], ⟨List.length_eq_zero_iff.mp hl.symm, rfl⟩, (fun x m => nomatch m), fun _ => List.nodup_nil⟩
  | a :: as, [], us, vs, f, _, h, _, _, _ => by cases h
  | a :: as, o :: os, [], vs, f, _, _, h, _, _ => h.elim
  | a :: as, o :: os, u :: us, [], f, hl, _, _, _, _ => by cases hl
  | a :: as, o :: os, u :: us, v :: vs, _, hl, hp, ⟨f, g, e, h, t⟩, ho, hs => by
    unfold pinsOk at hp
    rw [Bool.and_eq_true] at hp
    obtain ⟨fa, h1, h2, h3⟩ := outs_of (args := as) (outs := os) (us := us) (vs := vs) (by simpa using hl) hp.2 t (by simpa using ho) fun i sl e1 e2 => by simpa using hs (i + 1) sl (by simpa using e1) e2
    by_cases hpin : a.pin = true
    · cases o with
      | none =>
        rw [hpin] at hp
        simp at hp
      | some sl =>
        have hq : sl.pin = true := by simpa [hpin] using hp.1
        have eu : some u = some (some v) := by simpa using hs 0 sl rfl hq
        cases eu
        refine ⟨f ++ fa, ⟨f, fa, rfl, ?_, h1⟩, fun x m => ?_, fun nd => ?_⟩
        · rw [if_pos hpin]
          exact ⟨sl, rfl, h⟩
        · rw [e]
          rcases List.mem_append.mp m with m | m
          · exact List.mem_append_left _ m
          · exact List.mem_append_right _ (h2 x m)
        · rw [e] at nd
          obtain ⟨n1, n2, n3⟩ := List.nodup_append.mp nd
          exact List.nodup_append.mpr ⟨n1, h3 n2, fun x hx y hy => n3 x hx y (h2 y hy)⟩
    · refine ⟨fa, ⟨[], fa, rfl, ?_, h1⟩, fun x m => ?_, fun nd => ?_⟩
      · rw [if_neg hpin]
      · rw [e]
        exact List.mem_append_right _ (h2 x m)
      · rw [e] at nd
        exact h3 (List.nodup_append.mp nd).2.1
theorem outs_len : ∀ {args : List Slot} {outs : List (Option Slot)}, pinsOk args outs = true → args.length ≤ outs.length
  | [], _, _ => Nat.zero_le _
  | a :: as, o :: os, h => by
    unfold pinsOk at h
    rw [Bool.and_eq_true] at h
    exact Nat.succ_le_succ (outs_len h.2)
  | a :: as, [], h => by cases h
end
abbrev wxE (E : XK) : WX := fun c d _ H => E c d H
/-- what stands at a body's end -/
theorem body_end {X : Cx} {s' : Sx} {N : List Str} {args : List Slot} {vs : List V} {st' : St} {w' : Wd} {fp' : List Addr} (hl : args.length = vs.length) (hn : vs.length ≤ N.length) (R : Rel X.K (L2.start N vs) s' st' w' fp') (hp : pinsOk args (s'.r.take args.length) = true) :
    ∃ fa' fs', OutsR X.K w' args (s'.r.take args.length) vs fa' ∧ InsR X.K w' 0 s'.S fs' ∧ (fa' ++ fs').Nodup ∧ ∀ x ∈ fa' ++ fs', x ∈ fp' := by
  obtain ⟨fe, fs, e, h1, h2⟩ := R.parts
  obtain ⟨f, g, e2, q1, q2⟩ := all3_split args.length h1
  have hlen := outs_len hp
  have hle : args.length ≤ s'.r.length := by
    rw [List.length_take] at hlen
    omega
  obtain ⟨fa, o1, o2, o3⟩ := outs_of hl hp q1 (by rw [List.length_take]; omega) fun i sl e1 e2 => by
    have hi : i < args.length := by
      have := (List.getElem?_eq_some_iff.mp e1).1
      rw [List.length_take] at this
      omega
    rw [List.getElem?_take_of_lt hi] at e1
    obtain ⟨v, a1, a2⟩ := R.pin i sl e1 e2
    rw [List.getElem?_take_of_lt hi, a1]
    have hi2 : i < vs.length := by omega
    unfold L2.start at a2
    rw [List.getElem?_append_left (by rw [List.length_map]; exact hi2), List.getElem?_map] at a2
    cases hv : vs[i]? with
    | none =>
      rw [hv] at a2
      cases a2
    | some u =>
      rw [hv] at a2
      cases a2
      rfl
  have nd : (f ++ g ++ fs).Nodup := by rw [← e2, ← e]; exact R.nd
  refine ⟨fa, fs, o1, h2, ?_, fun x m => ?_⟩
  · obtain ⟨n1, n2, n3⟩ := List.nodup_append.mp nd
    exact List.nodup_append.mpr ⟨o3 (List.nodup_append.mp n1).1, n2, fun x hx y hy => n3 x (List.mem_append_left _ (o2 x hx)) y hy⟩
  · rw [e, e2]
    rcases List.mem_append.mp m with m | m
    · exact List.mem_append_left _ (List.mem_append_left _ (o2 x m))
    · exact List.mem_append_right _ m
/-- a body that does what m says, read -/
theorem body_run {X : Cx} {body : List Stmt} {m : M Flow} {N : List Str} {np : Nat} {vs : List V} {H : Hp} {Q : VK} {E : XK} (hN : np ≤ N.length) (hb : CSs X (wxE E) body m) (h : spOf X.K np (mkFn N.length m) vs H Q E) :
    WSs X body { nx := fun _ H' => Q .non H', rt := Q } (L2.start N vs) H := by
  obtain ⟨hl, w, args, S, fa, fs, rfl, ok, hNS, ha, hS, nd, hm⟩ := h
  have hal : vs.length = args.length := All3.len ha
  have hst : args.map some ++ List.replicate (N.length - args.length) (none : Option Slot) = args.map some ++ List.replicate (N.length - vs.length) none := by rw [hal]
  have R0 : Rel X.K (L2.start N vs) ⟨args.map some ++ List.replicate (N.length - args.length) none, S⟩ (L2.start N vs) w (fa ++ fs) := by
    refine ⟨ok, hNS, ⟨fa, fs, rfl, ?_, hS⟩, nd, fun i sl e hp => ?_⟩
    · have q := All3.append (args_slots ha) (all3_none (K := X.K) (w := w) (show N.length - args.length = N.length - vs.length by rw [hal]))
      rw [List.append_nil] at q
      exact q
    · have hi : i < args.length := by
        by_cases hi : i < args.length
        · exact hi
        · have e' : (args.map some ++ List.replicate (N.length - args.length) (none : Option Slot))[i]? = some (some sl) := e
          rw [List.getElem?_append_right (by rw [List.length_map]; omega), List.getElem?_replicate] at e'
          split at e' <;> cases e'
      have hi2 : i < vs.length := by omega
      have e1 : (L2.start N vs)[i]? = some (some vs[i]) := by
        unfold L2.start
        rw [List.getElem?_append_left (by rw [List.length_map]; exact hi2), List.getElem?_map, List.getElem?_eq_getElem hi2]
        rfl
      exact ⟨vs[i], e1, e1⟩
  refine hb.run _ _ _ w _ _ R0 ?_
  unfold mkFn at hm
  cases hr : m ⟨args.map some ++ List.replicate (N.length - args.length) none, S⟩ with
  | no =>
    rw [hr] at hm
    exact hm.elim
  | ex x s' =>
    rw [hr] at hm
    dsimp only at hm
    by_cases hp : pinsOk args (s'.r.take args.length) = true
    · rw [if_pos hp] at hm
      intro c dx st' w' fp' R' S' ex
      obtain ⟨fa', fs', o1, o2, o3, o4⟩ := body_end hal.symm (by omega) R' hp
      exact hm c dx w' fa' fs' (S'.sub o4) R'.N ex o1 o2 o3
    · rw [if_neg hp] at hm
      exact hm.elim
  | ok f s' =>
    rw [hr] at hm
    cases f with
    | bk => exact hm.elim
    | ct => exact hm.elim
    | nx =>
      dsimp only at hm
      by_cases hp : pinsOk args (s'.r.take args.length) = true
      · rw [if_pos hp] at hm
        intro st' w' fp' R' S'
        obtain ⟨fa', fs', o1, o2, o3, o4⟩ := body_end hal.symm (by omega) R' hp
        exact hm .non w' [] fa' fs' (S'.sub o4) R'.N ⟨rfl, rfl⟩ o1 o2 o3
      · rw [if_neg hp] at hm
        exact hm.elim
    | rt d k =>
      dsimp only at hm
      by_cases hp : pinsOk args (s'.r.take args.length) = true
      · rw [if_pos hp] at hm
        intro v st' w' fo fp' R' ow n S'
        obtain ⟨fa', fs', o1, o2, o3, o4⟩ := body_end hal.symm (by omega) R' hp
        refine hm v w' fo fa' fs' (S'.sub fun x m => ?_) R'.N ow o1 o2 ?_
        · rcases List.mem_append.mp m with m | m
          · exact List.mem_append_left _ m
          · exact List.mem_append_right _ (o4 x m)
        · obtain ⟨n1, n2, n3⟩ := List.nodup_append.mp n
          exact List.nodup_append.mpr ⟨n1, o3, fun x hx y hy => n3 x hx y (o4 y hy)⟩
      · rw [if_neg hp] at hm
        exact hm.elim
end Mi

set_option Elab.async false
set_option linter.all false
set_option maxRecDepth 100000
set_option maxHeartbeats 4000000
namespace Mi
open PySem L2

/-! ### calls of defs: what is handed in is borrowed (owned lists and dicts of the frame), moved (owned temporaries) or shared (what is frozen) -/
abbrev Args := List (Slot × Option (Nat × Bool))
def gth : List Op → List (Option Slot) → Option (Args × List (Option Slot))
  | [], r => some ([], r)
  | .val d k :: os, r => (gth os r).map fun p => ((⟨d, k, false⟩, none) :: p.1, p.2)
  | .slot i :: os, r => match r[i]? with
    | some (some sl) => if sl.k = 0 then (gth os r).map fun p => ((⟨sl.d, 0, false⟩, none) :: p.1, p.2)
      else (gth os (r.set i none)).map fun p => ((⟨sl.d, sl.k, true⟩, some (i, sl.pin)) :: p.1, p.2)
    | _ => none
def fill : Args → List (Option Slot) → List (Option Slot) → List (Option Slot)
  | [], _, r => r
  | _ :: _, [], r => r
  | (_, none) :: as, _ :: os, r => fill as os r
  | (_, some (i, p)) :: as, o :: os, r => fill as os (match o with
    | some sl => r.set i (some ⟨sl.d, sl.k, p⟩)
    | none => r)
/-- where the borrowed ones stand -/
def Lnk (st : St) (r : List (Option Slot)) : Args → List V → Prop
  | [], vs => vs = []
  | (a, none) :: as, v :: vs => a.pin = false ∧ Lnk st r as vs
  | (a, some (i, _)) :: as, v :: vs => a.pin = true ∧ st[i]? = some (some v) ∧ r[i]? = some none ∧ (∀ p ∈ as, ∀ j q, p.2 = some (j, q) → j ≠ i) ∧ Lnk st r as vs
  | _ :: _, [] => False
section
variable {K : PySem.W.Frag} {w w' : Wd} {st : St}
theorem map_some' {α β : Type} {o : Option α} {g : α → β} {b : β} (h : o.map g = some b) : ∃ a, o = some a ∧ g a = b := by
  cases o with
  | none => cases h
  | some a => exact ⟨a, rfl, Option.some.inj h⟩
theorem gth_none : ∀ {os : List Op} {r r' : List (Option Slot)} {args : Args}, gth os r = some (args, r') → (∀ i : Nat, r[i]? = some none → r'[i]? = some none) ∧ (∀ (j : Nat) (sl : Slot), r'[j]? = some (some sl) → r[j]? = some (some sl)) ∧
    ∀ a j p, (a, some (j, p)) ∈ args → (∃ sl : Slot, r[j]? = some (some sl) ∧ sl.pin = p) ∧ r'[j]? = some none
  | [], r, r', args, e => by
    cases e
    exact ⟨fun _ h => h, fun _ _ h => h, fun a j p m => nomatch m⟩
  | .val d k :: os, r, r', args, e => by
    unfold gth at e
    obtain ⟨⟨as, r1⟩, e1, e2⟩ := map_some' e
    cases e2
    obtain ⟨h1, h2, h3⟩ := gth_none e1
    refine ⟨h1, h2, fun a j p m => ?_⟩
    rcases List.mem_cons.mp m with m | m
    · cases m
    · exact h3 a j p m
  | .slot i :: os, r, r', args, e => by
    unfold gth at e
    split at e
    · rename_i sl hr
      split at e
      · obtain ⟨⟨as, r1⟩, e1, e2⟩ := map_some' e
        cases e2
        obtain ⟨h1, h2, h3⟩ := gth_none e1
        refine ⟨h1, h2, fun a j p m => ?_⟩
        rcases List.mem_cons.mp m with m | m
        · cases m
        · exact h3 a j p m
      · obtain ⟨⟨as, r1⟩, e1, e2⟩ := map_some' e
        cases e2
        obtain ⟨h1, h2, h3⟩ := gth_none e1
        have hil : i < r.length := (List.getElem?_eq_some_iff.mp hr).1
        refine ⟨fun j hj => ?_, fun j sl' hj => ?_, fun a j p m => ?_⟩
        · by_cases hji : j = i
          · subst hji
            exact h1 j (List.getElem?_set_self hil)
          · exact h1 j (by rw [List.getElem?_set_ne (Ne.symm hji)]; exact hj)
        · have q := h2 j sl' hj
          by_cases hji : j = i
          · subst hji
            rw [List.getElem?_set_self hil] at q
            cases q
          · rw [List.getElem?_set_ne (Ne.symm hji)] at q
            exact q
        · rcases List.mem_cons.mp m with m | m
          · cases m
            exact ⟨⟨sl, hr, rfl⟩, h1 i (List.getElem?_set_self hil)⟩
          · obtain ⟨⟨sl', q1, q2⟩, q3⟩ := h3 a j p m
            by_cases hji : j = i
            · subst hji
              rw [List.getElem?_set_self hil] at q1
              cases q1
            · rw [List.getElem?_set_ne (Ne.symm hji)] at q1
              exact ⟨⟨sl', q1, q2⟩, q3⟩
    · cases e
theorem gth_ok : ∀ {os : List Op} {r r' : List (Option Slot)} {args : Args} {vs : List V} {fo fe : List Addr}, gth os r = some (args, r') → All3 (SlR K w) r st fe → All3 (OpR K st w) os vs fo → (fo ++ fe).Nodup →
    ∃ fa fr, ArgsR K w (args.map (·.1)) vs fa ∧ All3 (SlR K w) r' st fr ∧ (fa ++ fr).Nodup ∧ (∀ x, x ∈ fa ++ fr → x ∈ fo ++ fe) ∧ Lnk st r' args vs
  | [], r, r', args, vs, fo, fe, e, hr, ho, nd => by
    cases e
    cases vs with
    | nil =>
      have e : fo = [] := ho
      subst e
      exact ⟨[], fe, rfl, hr, nd, fun x m => m, rfl⟩
    | cons _ _ => exact ho.elim
  | .val d k :: os, r, r', args, vs, fo, fe, e, hr, ho, nd => by
    unfold gth at e
    obtain ⟨⟨as, r1⟩, e1, e2⟩ := map_some' e
    cases e2
    cases vs with
    | nil => exact ho.elim
    | cons v vs =>
      obtain ⟨f1, f2, ef, h1, h2⟩ := ho
      subst ef
      have nd' : (f2 ++ fe).Nodup := by
        simp only [List.nodup_append, List.mem_append] at nd ⊢
        grind
      obtain ⟨fa, fr, a1, a2, a3, a4, a5⟩ := gth_ok e1 hr h2 nd'
      refine ⟨f1 ++ fa, fr, ⟨f1, fa, rfl, h1, a1⟩, a2, ?_, fun x m => ?_, ⟨rfl, a5⟩⟩
      · rw [List.append_assoc]
        refine List.nodup_append.mpr ⟨?_, a3, fun x hx y hy e => ?_⟩
        · simp only [List.nodup_append, List.mem_append] at nd
          grind
        · subst e
          have := a4 x hy
          simp only [List.nodup_append, List.mem_append] at nd this
          grind
      · rw [List.append_assoc] at m ⊢
        rcases List.mem_append.mp m with m | m
        · exact List.mem_append_left _ m
        · exact List.mem_append_right _ (a4 x m)
  | .slot i :: os, r, r', args, vs, fo, fe, e, hr, ho, nd => by
    unfold gth at e
    cases vs with
    | nil => exact ho.elim
    | cons v vs =>
      obtain ⟨f1, f2, ef, ⟨h1, h1'⟩, h2⟩ := ho
      subst h1'
      subst ef
      have nd' : (fo ++ fe).Nodup := nd
      split at e
      · rename_i sl hi
        obtain ⟨b, g1, g, g2, hb, hg, hp, hset⟩ := hr.at hi
        rw [h1] at hb
        cases hb
        have hp' : Ow K w sl.k sl.d v g := hp
        split at e
        · rename_i hk
          obtain ⟨⟨as, r1⟩, e1, e2⟩ := map_some' e
          cases e2
          obtain ⟨fa, fr, a1, a2, a3, a4, a5⟩ := gth_ok e1 hr h2 nd'
          rw [hk] at hp'
          exact ⟨fa, fr, ⟨[], fa, rfl, ⟨hp'.1, rfl⟩, a1⟩, a2, a3, a4, ⟨rfl, a5⟩⟩
        · obtain ⟨⟨as, r1⟩, e1, e2⟩ := map_some' e
          cases e2
          have est : st.set i (some v) = st := by
            apply List.ext_getElem?
            intro j
            by_cases hj : j = i
            · subst hj
              rw [List.getElem?_set_self (List.getElem?_eq_some_iff.mp h1).1, h1]
            · rw [List.getElem?_set_ne (Ne.symm hj)]
          have q := hset none (some v) [] rfl
          rw [est, List.append_nil] at q
          have nd2 : (fo ++ (g1 ++ g2)).Nodup := by
            rw [hg] at nd'
            simp only [List.nodup_append, List.mem_append] at nd' ⊢
            grind
          obtain ⟨fa, fr, a1, a2, a3, a4, a5⟩ := gth_ok e1 q h2 nd2
          have hil : i < r.length := (List.getElem?_eq_some_iff.mp hi).1
          obtain ⟨z1, z2, z3⟩ := gth_none e1
          refine ⟨g ++ fa, fr, ⟨g, fa, rfl, hp', a1⟩, a2, ?_, fun x m => ?_, ⟨rfl, h1, z1 i (List.getElem?_set_self hil), fun p hp jj qq hq ee => ?_, a5⟩⟩
          · rw [List.append_assoc]
            refine List.nodup_append.mpr ⟨?_, a3, fun x hx y hy e => ?_⟩
            · rw [hg] at nd'
              simp only [List.nodup_append, List.mem_append] at nd'
              grind
            · subst e
              have := a4 x hy
              rw [hg] at nd'
              simp only [List.nodup_append, List.mem_append] at nd' this
              grind
          · rw [List.append_assoc] at m
            show x ∈ fo ++ fe
            rw [hg]
            rcases List.mem_append.mp m with m | m
            · simp [m]
            · have := a4 x m
              simp only [List.mem_append] at this ⊢
              grind
          · subst ee
            obtain ⟨pa, pb⟩ := p
            dsimp only at hq
            subst hq
            obtain ⟨⟨sl', q1, q2⟩, q3⟩ := z3 pa jj qq hp
            rw [List.getElem?_set_self hil] at q1
            cases q1
      · cases e
theorem Lnk.set {i : Nat} {o : Option Slot} : ∀ {as : Args} {r : List (Option Slot)} {vs : List V}, (∀ p ∈ as, ∀ j q, p.2 = some (j, q) → j ≠ i) → Lnk st r as vs → Lnk st (r.set i o) as vs
  | [], _, _, _, h => h
  | (a, none) :: as, r, [], _, h => h.elim
  | (a, some (j, q)) :: as, r, [], _, h => h.elim
  | (a, none) :: as, r, v :: vs, c, h => ⟨h.1, Lnk.set (fun p hp => c p (List.mem_cons_of_mem _ hp)) h.2⟩
  | (a, some (j, q)) :: as, r, v :: vs, c, ⟨h1, h2, h3, h4, h5⟩ => ⟨h1, h2, by
    rw [List.getElem?_set_ne (Ne.symm (c _ (List.mem_cons_self ..) j q rfl))]
    exact h3, h4, Lnk.set (fun p hp => c p (List.mem_cons_of_mem _ hp)) h5⟩
theorem fill_ok : ∀ {args : Args} {outs : List (Option Slot)} {r : List (Option Slot)} {vs : List V} {fa fr : List Addr}, OutsR K w (args.map (·.1)) outs vs fa → Lnk st r args vs → All3 (SlR K w) r st fr → (fa ++ fr).Nodup →
    ∃ fe, All3 (SlR K w) (fill args outs r) st fe ∧ fe.Nodup ∧ ∀ x ∈ fe, x ∈ fa ++ fr
  | [], outs, r, vs, fa, fr, ho, hl, hr, nd => by
    refine ⟨fr, ?_, (List.nodup_append.mp nd).2.1, fun x m => List.mem_append_right _ m⟩
    cases outs <;> exact hr
  | a :: as, [], r, vs, fa, fr, ho, hl, hr, nd => by
    exact ho.elim
  | (a, none) :: as, o :: os, r, [], fa, fr, ho, hl, hr, nd => ho.elim
  | (a, some (i, p)) :: as, o :: os, r, [], fa, fr, ho, hl, hr, nd => ho.elim
  | (a, none) :: as, o :: os, r, v :: vs, _, fr, ⟨f, g, e, h1, h2⟩, hl, hr, nd => by
    subst e
    have hf : f = [] := by
      rw [if_neg (by rw [show a.pin = false from hl.1]; simp)] at h1
      exact h1
    subst hf
    obtain ⟨fe, q1, q2, q3⟩ := fill_ok h2 hl.2 hr nd
    exact ⟨fe, q1, q2, q3⟩
  | (a, some (i, p)) :: as, o :: os, r, v :: vs, _, fr, ⟨f, g, e, h1, h2⟩, ⟨l1, l2, l3, l4, l5⟩, hr, nd => by
    subst e
    have h1' : ∃ sl : Slot, o = some sl ∧ Ow K w sl.k sl.d v f := by
      rw [if_pos (show a.pin = true from l1)] at h1
      exact h1
    obtain ⟨sl, rfl, ow⟩ := h1'
    obtain ⟨b, g1, g0, g2, hb, hg, hp, hset⟩ := hr.at l3
    have eg : g0 = [] := hp
    subst eg
    have q := hset (some ⟨sl.d, sl.k, p⟩) (some v) f ow
    have est : st.set i (some v) = st := by
      apply List.ext_getElem?
      intro j
      by_cases hj : j = i
      · subst hj
        rw [List.getElem?_set_self (List.getElem?_eq_some_iff.mp l2).1, l2]
      · rw [List.getElem?_set_ne (Ne.symm hj)]
    rw [est] at q
    have nd2 : (g ++ (g1 ++ f ++ g2)).Nodup := by
      rw [hg] at nd
      simp only [List.append_nil, List.nodup_append, List.mem_append] at nd ⊢
      grind
    obtain ⟨fe, q1, q2, q3⟩ := fill_ok h2 (Lnk.set l4 l5) q nd2
    refine ⟨fe, q1, q2, fun x m => ?_⟩
    have := q3 x m
    rw [hg]
    simp only [List.append_nil, List.mem_append] at this ⊢
    grind
theorem fill_pin : ∀ {args : Args} {outs r : List (Option Slot)} {j : Nat} {sl : Slot}, (fill args outs r)[j]? = some (some sl) → sl.pin = true → (∃ sl0 : Slot, r[j]? = some (some sl0) ∧ sl0.pin = true) ∨ ∃ a, (a, some (j, true)) ∈ args
  | [], outs, r, j, sl, e, hp => by
    refine .inl ⟨sl, ?_, hp⟩
    cases outs <;> exact e
  | _ :: _, [], r, j, sl, e, hp => .inl ⟨sl, e, hp⟩
  | (a, none) :: as, o :: os, r, j, sl, e, hp => by
    rcases fill_pin (args := as) (outs := os) (r := r) e hp with h | ⟨b, h⟩
    · exact .inl h
    · exact .inr ⟨b, List.mem_cons_of_mem _ h⟩
  | (a, some (i, p)) :: as, o :: os, r, j, sl, e, hp => by
    rcases fill_pin (args := as) (outs := os) e hp with ⟨sl0, h, hp0⟩ | ⟨b, h⟩
    · cases o with
      | none => exact .inl ⟨sl0, h, hp0⟩
      | some s1 =>
        dsimp only at h
        by_cases hj : j = i
        · subst hj
          by_cases hl : j < r.length
          · rw [List.getElem?_set_self hl] at h
            cases h
            cases (show p = true from hp0)
            exact .inr ⟨a, List.mem_cons_self ..⟩
          · rw [List.getElem?_eq_none (by rw [List.length_set]; omega)] at h
            cases h
        · rw [List.getElem?_set_ne (Ne.symm hj)] at h
          exact .inl ⟨sl0, h, hp0⟩
    · exact .inr ⟨b, List.mem_cons_of_mem _ h⟩
/-- the callee's step leaves what is beside it -/
theorem all3_keep {r : List (Option Slot)} {fr fp fp' : List Addr} (h : All3 (SlR K w) r st fr) (S : Stp w fp w' fp') (hd : ∀ x ∈ fr, x ∉ fp) : All3 (SlR K w') r st fr :=
  h.imp fun a b f _ hf q => q.keep S.fz fun x hx o e n => ⟨S.hp x o e (hd x (hf x hx)), (S.un x o e (hd x (hf x hx))).trans n⟩
end
/-- defaults: scalars -/
def DflOk (ds : List D) (vs : List V) : Prop := ∀ r : Rp, VxL r ds vs
def dflS (ds : List D) : List Slot := ds.map fun d => ⟨d, 0, false⟩
section
variable {K : PySem.W.Frag} {w w' : Wd} {st : St}
theorem dfl_args {ds : List D} {vs : List V} (h : DflOk ds vs) : ArgsR K w (dflS ds) vs [] := by
  have key : ∀ {ds : List D} {vs : List V}, VxL (w.fz K) ds vs → ArgsR K w (dflS ds) vs [] := by
    intro ds
    induction ds with
    | nil =>
      intro vs h
      rw [show vs = [] from h]
      rfl
    | cons d ds ih =>
      intro vs h
      obtain ⟨v, t, e, h1, h2⟩ := h
      rw [e]
      exact ⟨[], [], rfl, ⟨h1, rfl⟩, ih h2⟩
  exact key (h _)
theorem outs_pre : ∀ {as bs : List Slot} {outs : List (Option Slot)} {vs us : List V} {f : List Addr}, as.length = vs.length → OutsR K w (as ++ bs) outs (vs ++ us) f → ∃ f1 f2, f = f1 ++ f2 ∧ OutsR K w as outs vs f1
  | [], bs, outs, [], us, f, _, h => ⟨[], f, rfl, rfl, rfl⟩
  | a :: as, bs, o :: os, v :: vs, us, _, hl, ⟨f, g, e, h1, h2⟩ => by
    obtain ⟨f1, f2, e1, h3⟩ := outs_pre (by simpa using hl) h2
    exact ⟨f ++ f1, f2, by rw [e, e1, List.append_assoc], f, f1, rfl, h1, h3⟩
  | a :: as, bs, [], v :: vs, us, _, hl, h => h.elim
  | [], bs, outs, v :: vs, us, f, hl, h => by cases hl
  | a :: as, bs, outs, [], us, f, hl, h => by cases hl
end
def callM (f : Fn) (np : Nat) (dfl : List D) (ms : M (List Op)) : M Op := bnd ms fun os => if os.length + dfl.length = np then fun s => match gth os s.r with
  | none => .no
  | some (args, r') => match f (args.map (·.1) ++ dflS dfl) s.S with
    | .ok d k outs S' => .ok (.val d k) ⟨fill args outs r', S'⟩
    | .ex x outs S' => .ex x ⟨fill args outs r', S'⟩
    | .no => .no
  else stuck
section
variable {X : Cx} {wx : WX} {s0 st : St} {s s' : Sx} {w w0 w1 : Wd} {fp fp0 fp1 fo g : List Addr}
/-- the callee's promise from the caller's state -/
theorem sp_call {f : Fn} {np : Nat} {dfl : List D} {dvs : List V} {os : List Op} {vs : List V} {Q : VK} (hd : DflOk dfl dvs) (hn : vs.length + dvs.length = np) (R : Rel X.K s0 s st w fp) (ho : All3 (OpR X.K st w) os vs fo) (nd : (fo ++ fp).Nodup) (S : Stp w0 fp0 w (fo ++ fp))
    (hp : Post X wx (RE X.K st) s0 st w0 fp0 ((match gth os s.r with
      | none => .no
      | some (args, r') => match f (args.map (·.1) ++ dflS dfl) s.S with
        | .ok d k outs S' => .ok (.val d k) ⟨fill args outs r', S'⟩
        | .ex x outs S' => .ex x ⟨fill args outs r', S'⟩
        | .no => .no : Rs Op)) Q) : spOf X.K np f (vs ++ dvs) w.H Q (WE wx st) := by
  obtain ⟨fe, fs, ef, q1, q2⟩ := R.parts
  refine ⟨by rw [List.length_append]; exact hn, ?_⟩
  cases hg : gth os s.r with
  | none =>
    rw [hg] at hp
    exact hp.elim
  | some p =>
    obtain ⟨args, r'⟩ := p
    rw [hg] at hp
    dsimp only at hp
    have nd1 : (fo ++ fe).Nodup := by
      rw [ef] at nd
      simp only [List.nodup_append, List.mem_append] at nd ⊢
      grind
    obtain ⟨fa, fr, a1, a2, a3, a4, a5⟩ := gth_ok hg q1 ho nd1
    obtain ⟨z1, z2, z3⟩ := gth_none hg
    have hal : (args.map (·.1)).length = vs.length := (All3.len a1).symm
    have aa : ArgsR X.K w (args.map (·.1) ++ dflS dfl) (vs ++ dvs) fa := by
      have q := All3.append a1 (dfl_args (K := X.K) (w := w) hd)
      rw [List.append_nil] at q
      exact q
    -- all apart: the arguments, the rest of the frame, the store
    have nd2 : (fr ++ (fa ++ fs)).Nodup := by
      have hsub := a4
      rw [ef] at nd
      simp only [List.nodup_append, List.mem_append] at nd a3 hsub ⊢
      grind
    refine ⟨w, _, s.S, fa, fs, rfl, R.ok, R.N, aa, q2, (List.nodup_append.mp nd2).2.1, ?_⟩
    have S0 : Stp w0 fp0 w (fr ++ (fa ++ fs)) := S.sub fun x m => by
      rw [ef]
      rcases List.mem_append.mp m with m | m
      · have := a4 x (List.mem_append_right _ m)
        simp only [List.mem_append] at this ⊢
        grind
      · rcases List.mem_append.mp m with m | m
        · have := a4 x (List.mem_append_left _ m)
          simp only [List.mem_append] at this ⊢
          grind
        · simp [m]
    -- the state behind
    have back : ∀ {w' : Wd} {g fa' fs' : List Addr} {outs : List (Option Slot)} {S' : List Inst}, Stp w (fa ++ fs) w' (g ++ (fa' ++ fs')) → w'.N = S'.length → OutsR X.K w' (args.map (·.1) ++ dflS dfl) outs (vs ++ dvs) fa' → InsR X.K w' 0 S' fs' → (g ++ (fa' ++ fs')).Nodup →
        ∃ fp', Rel X.K s0 ⟨fill args outs r', S'⟩ st w' fp' ∧ (g ++ fp').Nodup ∧ Stp w0 fp0 w' (g ++ fp') := by
      intro w' g fa' fs' outs S' SS hN ho hi hnd
      obtain ⟨f1, f2, e1, o1⟩ := outs_pre hal ho
      have b2 : All3 (SlR X.K w') r' st fr := all3_keep a2 SS (nd_dis nd2)
      have domr : ∀ x ∈ fr, w.H x ≠ none := fun x hx => by
        obtain ⟨a, b, f', _, q, m⟩ := a2.mem hx
        exact (q.dom x m).1
      have nd3 : (fr ++ (g ++ (fa' ++ fs'))).Nodup := SS.nodup nd2 domr hnd
      have nd4 : (f1 ++ fr).Nodup := by
        rw [e1] at nd3
        simp only [List.nodup_append, List.mem_append] at nd3 ⊢
        grind
      obtain ⟨fe', c1, c2, c3⟩ := fill_ok o1 a5 b2 nd4
      refine ⟨fe' ++ fs', ⟨SS.ok, hN, ⟨fe', fs', rfl, c1, hi⟩, ?_, fun j sl hj hpj => ?_⟩, ?_, ?_⟩
      · refine List.nodup_append.mpr ⟨c2, ?_, fun x hx y hy e => ?_⟩
        · simp only [List.nodup_append, List.mem_append] at nd3
          grind
        · subst e
          have := c3 x hx
          rw [e1] at nd3
          simp only [List.nodup_append, List.mem_append] at nd3 this
          grind
      · rcases fill_pin hj hpj with ⟨sl0, h, hp0⟩ | ⟨a, h⟩
        · exact R.pin j sl0 (z2 j sl0 h) hp0
        · obtain ⟨⟨sl0, h1, h2⟩, _⟩ := z3 a j true h
          exact R.pin j sl0 h1 h2
      · refine List.nodup_append.mpr ⟨?_, ?_, fun x hx y hy e => ?_⟩
        · simp only [List.nodup_append, List.mem_append] at nd3
          grind
        · refine List.nodup_append.mpr ⟨c2, ?_, fun x hx y hy e => ?_⟩
          · simp only [List.nodup_append, List.mem_append] at nd3
            grind
          · subst e
            have := c3 x hx
            rw [e1] at nd3
            simp only [List.nodup_append, List.mem_append] at nd3 this
            grind
        · subst e
          rw [e1] at nd3
          rcases List.mem_append.mp hy with hy | hy
          · have := c3 x hy
            simp only [List.nodup_append, List.mem_append] at nd3 this
            grind
          · simp only [List.nodup_append, List.mem_append] at nd3
            grind
      · have S1 : Stp w (fr ++ (fa ++ fs)) w' (fr ++ (g ++ (fa' ++ fs'))) := SS.beside
        refine (S0.trans S1).sub fun x m => ?_
        rcases List.mem_append.mp m with m | m
        · simp [m]
        · rcases List.mem_append.mp m with m | m
          · have := c3 x m
            rw [e1]
            simp only [List.mem_append] at this ⊢
            grind
          · simp [m]
    cases hf : f (args.map (·.1) ++ dflS dfl) s.S with
    | no =>
      rw [hf] at hp
      exact hp.elim
    | ok d k outs S' =>
      rw [hf] at hp
      intro v w' fo' fa' fs' SS hN ow ho hi hnd
      obtain ⟨fp', R', n', S''⟩ := back SS hN ho hi hnd
      exact hp v w' fo' fp' R' ow n' S''
    | ex x outs S' =>
      rw [hf] at hp
      intro c dx w' fa' fs' SS hN ex ho hi hnd
      obtain ⟨fp', R', n', S''⟩ := back (g := []) SS hN ho hi hnd
      exact hp c dx w' fp' R' S'' ex
theorem ce_call {f : Fn} {np k : Nat} {fa : Addr} {fd : FuncData} {ps : List Str} {dfl : List D} {dvs : List V} {ds : List Value} {x : Str} {p pos : Pos} {e : Expr} {es : List Expr} {ms : M (List Op)}
    (F : FnOk X.prog X.w X.K X.mg X.base (L2.CX X.prog X.w) k fa fd ps (spOf X.K np f)) (hr : Room k X.A) (tk : Takes X wx) (hg : Gl X x) (hm : X.mg x = some (.ref fa)) (hk : PySem.W.keepIn X.K (.ref fa) = true) (hb : Binds X.K fd ps ds) (hv : Vals dvs ds) (hd : DflOk dfl dvs)
    (ha : CA X wx (e :: es) ms) (hdb : (x == ("__debug__" : Str)) = false := by decide) (he : starEach (e :: es) X.env = (false, eval e X.env) :: starEach es X.env := by rfl) (hpl : (backTo pos (starEach es X.env)).any (·.1) = false := by rfl) :
    CE X wx (.Call (.Name x p) (e :: es) [] pos) (callM f np dfl ms) := by
  refine ⟨fun s0 s st w fp Q R hp => ⟨_, pe_callSD (E := WE wx) F hr hg hm hk hb hv (fun st => passAt tk st) pa_W hdb he hpl, ?_⟩⟩
  refine ha.go R (Stp.refl R.ok) hp fun os s1 vs w1 f1 fp1 R1 r1 n1 S1 hp1 => ?_
  by_cases hn : os.length + dfl.length = np
  · rw [if_pos hn] at hp1
    exact sp_call hd (by rw [All3.len r1, (hd (w1.fz X.K)).length]; exact hn) R1 r1 n1 S1 hp1
  · rw [if_neg hn] at hp1
    exact hp1.elim
end
end Mi

set_option Elab.async false
set_option linter.all false
set_option maxRecDepth 100000
set_option maxHeartbeats 4000000
namespace Mi
open PySem L2

/-! ### what is gone through -/
inductive Src where
  | fix (ds : List D)
  | bor (i : Nat) (g : Nat → D → D)
section
variable (K : PySem.W.Frag)
/-- a turn's value: x at H', a world that only grew, d by value -/
def Yl (w' : Wd) (d : D) (x : V) (H' : Hp) : Prop := ∃ w'', w''.H = H' ∧ Stp w' [] w'' [] ∧ w''.N = w'.N ∧ Vx (w''.fz K) d x
def FixR (w : Wd) (ds : List D) (J : It) : Prop := ∀ w' : Wd, w'.Ok → (w.fz K).Le (w'.fz K) →
  (∀ (i : Nat) (d : D), ds[i]? = some d → J.go i w'.H ∧ ∀ x H', J.yld i w'.H x H' → Yl K w' d x H') ∧ J.stop ds.length w'.H
def BorR (st : St) (i : Nat) (g : Nat → D → D) (J : It) : Prop := ∃ a, st[i]? = some (some (.ref a)) ∧ ∀ (w' : Wd) (xs : List V), w'.Ok → w'.H a = some (.lst xs) →
  (∀ (j : Nat) (v : V) (d : D), xs[j]? = some v → Vx (w'.fz K) d v → J.go j w'.H ∧ ∀ x H', J.yld j w'.H x H' → Yl K w' (g j d) x H') ∧ J.stop xs.length w'.H
def SrcR (st : St) (w : Wd) : Src → It → Prop
  | .fix ds, J => FixR K w ds J
  | .bor i g, J => BorR K st i g J
def RI : St → Src → It → Wd → List Addr → Prop := fun st z J w fo => SrcR K st w z J ∧ fo = []
end
abbrev CI (X : Cx) (wx : WX) (tg it : Expr) (m : M Src) : Prop := CJ X wx (WI X tg it) (RI X.K) m

/-! ### for -/
/-- a turn -/
def turnM (f : D → Nat → M Unit) (b : M Flow) (d : D) (go : M Flow) : M Flow := bnd (f d 0) fun _ => bnd b fun z => match z with
  | .nx => go
  | .ct => go
  | .bk => ret .nx
  | .rt d k => ret (.rt d k)
def forL (f : D → Nat → M Unit) (b : M Flow) : List D → M Flow
  | [] => ret .nx
  | d :: ds => turnM f b d (forL f b ds)
/-- the list at a slot, n long -/
def lstAt (c : Bool) (i n : Nat) : M (List D) := fun s => match s.r[i]? with
  | some (some ⟨.lst ds, 1, p⟩) => if ds.length = n ∧ (c = true → p = true) then .ok ds s else .no
  | some (some ⟨.lst ds, 0, p⟩) => if ds.length = n ∧ (c = true → p = true) then .ok ds s else .no
  | _ => .no
def forB (f : D → Nat → M Unit) (b : M Flow) (i : Nat) (g : Nat → D → D) (n : Nat) : Nat → M Flow
  | 0 => bnd (lstAt true i n) fun _ => ret .nx
  | r + 1 => bnd (lstAt true i n) fun ds => bnd (opt ds[n - (r + 1)]?) fun d => turnM f b (g (n - (r + 1)) d) (forB f b i g n r)
def unp : List (Option Slot) → List (Option Slot) → List (Option Slot)
  | _, [] => []
  | [], b :: bs => (b.map fun y => { y with pin := false }) :: unp [] bs
  | a :: as, b :: bs => (b.map fun y => { y with pin := y.pin && (match a with
    | some x => x.pin
    | none => false) }) :: unp as bs
def unpS (r0 : List (Option Slot)) : Rs Flow → Rs Flow
  | .ok a s => .ok a { s with r := unp r0 s.r }
  | .ex x s => .ex x { s with r := unp r0 s.r }
  | .no => .no
def lenAt (s : Sx) (i : Nat) : Nat := match s.r[i]? with
  | some (some ⟨.lst ds, _, _⟩) => ds.length
  | _ => 0
def pinS (i : Nat) (s : Sx) : Sx := { s with r := match s.r[i]? with
  | some (some sl) => s.r.set i (some { sl with pin := true })
  | _ => s.r }
def forM (src : M Src) (f : D → Nat → M Unit) (b : M Flow) : M Flow := bnd src fun z => match z with
  | .fix ds => forL f b ds
  | .bor i g => fun s => unpS s.r (forB f b i g (lenAt s i) (lenAt s i) (pinS i s))
def whileM : Nat → M Bool → M Flow → M Flow
  | 0, _, _ => stuck
  | n + 1, c, b => bnd c fun k => if k then bnd b fun z => match z with
    | .nx => whileM n c b
    | .ct => whileM n c b
    | .bk => ret .nx
    | .rt d k => ret (.rt d k)
    else ret .nx

section
variable {X : Cx} {wx : WX} {s0 st : St} {s s' : Sx} {w w0 w1 : Wd} {fp fp0 fp1 fo g : List Addr} {E : Ends}
theorem bndS_no {α : Type} {m : M α} {f : α → M Flow} (e : m s = .no) (hp : PostS X wx s0 w0 fp0 (bnd m f s) E) : False := by
  unfold bnd at hp
  rw [e] at hp
  exact hp
/-- a target, within a statement -/
theorem cg_goS {tg : Expr} {f : D → Nat → M Unit} {ts : List Nat} {go : M Flow} {d : D} {k : Nat} {v : V} {N : St → Hp → Prop} (h : CG X tg f ts) (R : Rel X.K s0 s st w fp) (ow : Ow X.K w k d v fo) (n : (fo ++ fp).Nodup) (S : Stp w0 fp0 w (fo ++ fp))
    (hp : PostS X wx s0 w0 fp0 (bnd (f d k) (fun _ => go) s) E) (kk : ∀ s1 st1 w1 fp1, Same ts st st1 → Rel X.K s0 s1 st1 w1 fp1 → Stp w0 fp0 w1 fp1 → PostS X wx s0 w0 fp0 (go s1) E → N st1 w1.H) : WG X tg v st w.H N := by
  refine h.run s0 s st w fp v d k fo N R ow n ?_
  unfold bnd at hp
  cases hf : f d k s with
  | ok u s1 =>
    rw [hf] at hp
    exact fun st' w' fp' sm R' S' => kk s1 st' w' fp' sm R' (S.trans S') hp
  | ex x s1 => exact (h.noex _ _ _ _ _ hf).elim
  | no =>
    rw [hf] at hp
    exact hp.elim
/-- a turn: the value, the target, the body -/
theorem turn_ok {tg : Expr} {f : D → Nat → M Unit} {ts : List Nat} {body : List Stmt} {b go : M Flow} {d : D} {x : V} {H' : Hp} {N : St → Hp → Prop} (hg : CG X tg f ts) (hb : CSs X wx body b) (R : Rel X.K s0 s st w fp) (S : Stp w0 fp0 w fp) (y : Yl X.K w d x H')
    (hp : PostS X wx s0 w0 fp0 (turnM f b d go s) E) (kk : ∀ s1 st1 w1 fp1, Rel X.K s0 s1 st1 w1 fp1 → Stp w0 fp0 w1 fp1 → PostS X wx s0 w0 fp0 (go s1) E → N st1 w1.H) :
    WG X tg x st H' fun σ2 H2 => WSs X body { E with nx := N, ct := N, bk := E.nx } σ2 H2 := by
  obtain ⟨w', rfl, S1, hN, vx⟩ := y
  have R1 := R.alloc S1 hN
  have S1' : Stp w fp w' fp := S1.beside (g := fp) |>.more (by simp) |>.sub (by simp)
  refine cg_goS (fo := []) (go := bnd b fun z => match z with
    | .nx => go
    | .ct => go
    | .bk => ret .nx
    | .rt d k => ret (.rt d k)) (d := d) (k := 0) hg R1 ⟨vx, rfl⟩ R1.nd (S.trans S1') hp fun s1 st1 w1 fp1 _ R2 S2 hp2 => ?_
  refine hb.run s0 s1 st1 w1 fp1 _ R2 ?_
  unfold bnd at hp2
  cases hm : b s1 with
  | ok z s2 =>
    rw [hm] at hp2
    cases z with
    | nx => exact fun st' w' fp' R' S' => kk s2 st' w' fp' R' (S2.trans S') hp2
    | ct => exact fun st' w' fp' R' S' => kk s2 st' w' fp' R' (S2.trans S') hp2
    | bk => exact fun st' w' fp' R' S' => hp2 st' w' fp' R' (S2.trans S')
    | rt d k => exact fun v st' w' fo fp' R' o n S' => hp2 v st' w' fo fp' R' o n (S2.trans S')
  | ex y s2 =>
    rw [hm] at hp2
    exact PostXS.from hp2 S2
  | no =>
    rw [hm] at hp2
    exact hp2.elim
theorem drop_cons {ds : List D} {i : Nat} {d : D} (h : ds[i]? = some d) : ds.drop i = d :: ds.drop (i + 1) := by
  obtain ⟨h1, h2⟩ := List.getElem?_eq_some_iff.mp h
  rw [List.drop_eq_getElem_cons h1, h2]
theorem for_fix {tg : Expr} {f : D → Nat → M Unit} {ts : List Nat} {body : List Stmt} {b : M Flow} {ds : List D} {J : It} (hg : CG X tg f ts) (hb : CSs X wx body b) (R : Rel X.K s0 s st w fp) (hJ : FixR X.K w ds J)
    (hp : PostS X wx s0 w fp (forL f b ds s) E) :
    ∃ W : Nat → Nat → St → Hp → Prop, (∃ m, W 0 m st w.H) ∧ ∀ i m σ H, W i m σ H →
      (J.stop i H ∧ E.nx σ H) ∨ (J.go i H ∧ ∃ N : St → Hp → Prop, (∀ σ' H', N σ' H' → ∃ m', m' < m ∧ W (i + 1) m' σ' H') ∧ ∀ x H', J.yld i H x H' → WG X tg x σ H' fun σ2 H2 => WSs X body { E with nx := N, ct := N, bk := E.nx } σ2 H2) := by
  refine ⟨fun i m σ H => m = ds.length - i ∧ i ≤ ds.length ∧ ∃ s1 w1 fp1, w1.H = H ∧ Rel X.K s0 s1 σ w1 fp1 ∧ Stp w fp w1 fp1 ∧ PostS X wx s0 w fp (forL f b (ds.drop i) s1) E, ⟨ds.length, rfl, Nat.zero_le _, s, w, fp, rfl, R, Stp.refl R.ok, hp⟩, ?_⟩
  rintro i m σ H ⟨rfl, hi, s1, w1, fp1, rfl, R1, S1, hp1⟩
  have hj := hJ w1 R1.ok S1.fz
  cases hd : ds[i]? with
  | none =>
    have hl : i = ds.length := Nat.le_antisymm hi (List.getElem?_eq_none_iff.mp hd)
    subst hl
    rw [List.drop_length] at hp1
    exact .inl ⟨hj.2, hp1 σ w1 fp1 R1 S1⟩
  | some d =>
    obtain ⟨g1, g2⟩ := hj.1 i d hd
    have hlt : i < ds.length := (List.getElem?_eq_some_iff.mp hd).1
    rw [drop_cons hd] at hp1
    exact .inr ⟨g1, fun σ' H' => ∃ s2 w2 fp2, w2.H = H' ∧ Rel X.K s0 s2 σ' w2 fp2 ∧ Stp w fp w2 fp2 ∧ PostS X wx s0 w fp (forL f b (ds.drop (i + 1)) s2) E, fun σ' H' h => ⟨ds.length - (i + 1), by omega, rfl, hlt, h⟩, fun x H' y =>
      turn_ok hg hb R1 S1 (g2 x H' y) hp1 fun s2 st2 w2 fp2 R2 S2 hp2 => ⟨s2, w2, fp2, rfl, R2, S2, hp2⟩⟩
theorem lstAt_ok {c : Bool} {i n : Nat} {ds : List D} {a : Addr} (R : Rel X.K s0 s st w fp) (h : lstAt c i n s = .ok ds s') (ha : st[i]? = some (some (.ref a))) : s' = s ∧ ds.length = n ∧ ∃ xs, w.H a = some (.lst xs) ∧ VxL (w.fz X.K) ds xs := by
  obtain ⟨fe, fs, ef, q1, q2⟩ := R.parts
  unfold lstAt at h
  split at h
  · rename_i ds' p e
    split at h
    · rename_i hl
      cases h
      obtain ⟨b, f1, f, f2, hb, hf, hpp, _⟩ := q1.at e
      rw [ha] at hb
      cases hb
      obtain ⟨p', xs, g', e1, h1, n1, e2, t⟩ := (show Ow X.K w 1 (.lst ds) (.ref a) f from hpp)
      cases e1
      exact ⟨rfl, hl.1, xs, h1, all0 t⟩
    · cases h
  · rename_i ds' p e
    split at h
    · rename_i hl
      cases h
      obtain ⟨b, f1, f, f2, hb, hf, hpp, _⟩ := q1.at e
      rw [ha] at hb
      cases hb
      obtain ⟨p', xs, e1, h1, t⟩ := (show Ow X.K w 0 (.lst ds) (.ref a) f from hpp).1
      cases e1
      exact ⟨rfl, hl.1, xs, R.ok _ _ h1, t⟩
    · cases h
  · cases h
theorem lstAt_no {c : Bool} {i n : Nat} {x : Exn} : lstAt c i n s ≠ .ex x s' := by
  intro e
  unfold lstAt at e
  split at e
  · split at e <;> cases e
  · split at e <;> cases e
  · cases e
/-- what is read at a slot, n long -/
theorem lstAt_go {c : Bool} {i n : Nat} {a : Addr} {f : List D → M Flow} (R : Rel X.K s0 s st w fp) (ha : st[i]? = some (some (.ref a))) (hp : PostS X wx s0 w0 fp0 (bnd (lstAt c i n) f s) E) : ∃ ds xs, ds.length = n ∧ w.H a = some (.lst xs) ∧ VxL (w.fz X.K) ds xs ∧ PostS X wx s0 w0 fp0 (f ds s) E := by
  unfold bnd at hp
  cases hl : lstAt c i n s with
  | ok ds s1 =>
    rw [hl] at hp
    obtain ⟨rfl, h1, xs, h2, h3⟩ := lstAt_ok R hl ha
    exact ⟨ds, xs, h1, h2, h3, hp⟩
  | ex x s1 => exact (lstAt_no hl).elim
  | no =>
    rw [hl] at hp
    exact hp.elim
theorem optS_go {α : Type} {o : Option α} {f : α → M Flow} (hp : PostS X wx s0 w0 fp0 (bnd (opt o) f s) E) : ∃ a, o = some a ∧ PostS X wx s0 w0 fp0 (f a s) E := by
  cases o with
  | none => exact hp.elim
  | some a => exact ⟨a, rfl, hp⟩
theorem lstAt_pin {i n : Nat} {ds : List D} (h : lstAt true i n s = .ok ds s') : ∃ sl : Slot, s.r[i]? = some (some sl) ∧ sl.pin = true := by
  unfold lstAt at h
  split at h
  · rename_i ds' p e
    split at h
    · rename_i hl
      exact ⟨_, e, hl.2 rfl⟩
    · cases h
  · rename_i ds' p e
    split at h
    · rename_i hl
      exact ⟨_, e, hl.2 rfl⟩
    · cases h
  · cases h
theorem lstP_go {i n : Nat} {a : Addr} {f : List D → M Flow} (R : Rel X.K s0 s st w fp) (ha : s0[i]? = some (some (.ref a))) (hp : PostS X wx s0 w0 fp0 (bnd (lstAt true i n) f s) E) : ∃ ds xs, ds.length = n ∧ w.H a = some (.lst xs) ∧ VxL (w.fz X.K) ds xs ∧ PostS X wx s0 w0 fp0 (f ds s) E := by
  have hst : st[i]? = some (some (.ref a)) := by
    unfold bnd at hp
    cases hl : lstAt true i n s with
    | ok ds s1 =>
      obtain ⟨sl, h1, h2⟩ := lstAt_pin hl
      obtain ⟨v, h3, h4⟩ := R.pin i sl h1 h2
      rw [h4] at ha
      cases ha
      exact h3
    | ex x s1 => exact (lstAt_no hl).elim
    | no =>
      rw [hl] at hp
      exact hp.elim
  exact lstAt_go R hst hp
theorem unp_all {K : PySem.W.Frag} {w : Wd} : ∀ {r0 r : List (Option Slot)} {st : St} {fe : List Addr}, All3 (SlR K w) r st fe → All3 (SlR K w) (unp r0 r) st fe
  | [], [], [], _, h => h
  | _ :: _, [], [], _, h => h
  | [], b :: bs, v :: vs, _, ⟨f, g, e, h, t⟩ => by
    refine ⟨f, g, e, ?_, unp_all t⟩
    cases b with
    | none => exact h
    | some b =>
      cases v with
      | none => exact h.elim
      | some v => exact h
  | a :: as, b :: bs, v :: vs, _, ⟨f, g, e, h, t⟩ => by
    refine ⟨f, g, e, ?_, unp_all t⟩
    cases b with
    | none => exact h
    | some b =>
      cases v with
      | none => exact h.elim
      | some v => exact h
  | [], [], _ :: _, _, h => h.elim
  | _ :: _, [], _ :: _, _, h => h.elim
  | [], _ :: _, [], _, h => h.elim
  | _ :: _, _ :: _, [], _, h => h.elim
theorem unp_pin : ∀ {r0 r : List (Option Slot)} {j : Nat} {sl : Slot}, (unp r0 r)[j]? = some (some sl) → sl.pin = true → (∃ s1 : Slot, r[j]? = some (some s1) ∧ s1.pin = true) ∧ ∃ s2 : Slot, r0[j]? = some (some s2) ∧ s2.pin = true
  | _, [], j, sl, e, hp => by
    unfold unp at e
    cases e
  | [], b :: bs, 0, sl, e, hp => by
    cases b with
    | none => cases e
    | some b =>
      cases e
      cases hp
  | [], b :: bs, j + 1, sl, e, hp => by
    obtain ⟨_, s2, h, _⟩ := unp_pin (r0 := []) (r := bs) (j := j) e hp
    cases h
  | a :: as, b :: bs, 0, sl, e, hp => by
    cases b with
    | none => cases e
    | some b =>
      cases e
      cases a with
      | none =>
        have hp' : (b.pin && false) = true := hp
        simp at hp'
      | some a =>
        have hp' : (b.pin && a.pin) = true := hp
        rw [Bool.and_eq_true] at hp'
        exact ⟨⟨b, rfl, hp'.1⟩, a, rfl, hp'.2⟩
  | a :: as, b :: bs, j + 1, sl, e, hp => unp_pin (r0 := as) (r := bs) (j := j) e hp
theorem Rel.unp {K : PySem.W.Frag} {σ : St} {w' : Wd} {fp' : List Addr} (R : Rel K s0 s st w fp) (R' : Rel K st s' σ w' fp') : Rel K s0 { s' with r := Mi.unp s.r s'.r } σ w' fp' := by
  obtain ⟨fe, fs, e, h1, h2⟩ := R'.parts
  refine ⟨R'.ok, R'.N, ⟨fe, fs, e, unp_all h1, h2⟩, R'.nd, fun i sl hi hp => ?_⟩
  obtain ⟨⟨s1, a1, a2⟩, s2, b1, b2⟩ := unp_pin hi hp
  obtain ⟨v, c1, c2⟩ := R'.pin i s1 a1 a2
  obtain ⟨u, d1, d2⟩ := R.pin i s2 b1 b2
  rw [c2] at d1
  cases d1
  exact ⟨_, c1, d2⟩
theorem unp_post {r : Rs Flow} (R : Rel X.K s0 s st w fp) (hp : PostS X wx s0 w fp (unpS s.r r) E) : PostS X wx st w fp r E := by
  cases r with
  | ok f s1 =>
    cases f with
    | nx => exact fun st' w' fp' R' S' => hp st' w' fp' (R.unp R') S'
    | bk => exact fun st' w' fp' R' S' => hp st' w' fp' (R.unp R') S'
    | ct => exact fun st' w' fp' R' S' => hp st' w' fp' (R.unp R') S'
    | rt d k => exact fun v st' w' fo fp' R' o n S' => hp v st' w' fo fp' (R.unp R') o n S'
  | ex x s1 => exact fun c dx st' w' fp' R' S' e => hp c dx st' w' fp' (R.unp R') S' e
  | no => exact hp
theorem Rel.pinned {K : PySem.W.Frag} (R : Rel K s0 s st w fp) (i : Nat) : Rel K st (pinS i s) st w fp := by
  have R1 : Rel K st s st w fp := ⟨R.ok, R.N, R.parts, R.nd, fun j sl hj hp => by
    obtain ⟨v, h1, _⟩ := R.pin j sl hj hp
    exact ⟨v, h1, h1⟩⟩
  unfold pinS
  split
  · rename_i sl e
    obtain ⟨fe, fs, ef, q1, q2⟩ := R.parts
    obtain ⟨b, f1, f, f2, hb, hf, hpp, hset⟩ := q1.at e
    cases b with
    | none => exact False.elim hpp
    | some v =>
      have q := hset (some { sl with pin := true }) (some v) f hpp
      have est : st.set i (some v) = st := by
        apply List.ext_getElem?
        intro j
        by_cases hj : j = i
        · subst hj
          rw [List.getElem?_set_self (List.getElem?_eq_some_iff.mp hb).1, hb]
        · rw [List.getElem?_set_ne (Ne.symm hj)]
      rw [est, ← hf] at q
      refine ⟨R.ok, R.N, ⟨fe, fs, ef, q, q2⟩, R.nd, fun j sl' hj hp => ?_⟩
      by_cases hji : j = i
      · subst hji
        exact ⟨v, hb, hb⟩
      · have hj' : (s.r.set i (some { sl with pin := true }))[j]? = some (some sl') := hj
        rw [List.getElem?_set_ne (Ne.symm hji)] at hj'
        exact R1.pin j sl' hj' hp
  · exact R1
theorem for_bor {tg : Expr} {f : D → Nat → M Unit} {ts : List Nat} {body : List Stmt} {b : M Flow} {i0 n : Nat} {g : Nat → D → D} {J : It} (hg : CG X tg f ts) (hb : CSs X wx body b) (R : Rel X.K s0 s st w fp) (hJ : BorR X.K s0 i0 g J)
    (hp : PostS X wx s0 w fp (forB f b i0 g n n s) E) :
    ∃ W : Nat → Nat → St → Hp → Prop, (∃ m, W 0 m st w.H) ∧ ∀ i m σ H, W i m σ H →
      (J.stop i H ∧ E.nx σ H) ∨ (J.go i H ∧ ∃ N : St → Hp → Prop, (∀ σ' H', N σ' H' → ∃ m', m' < m ∧ W (i + 1) m' σ' H') ∧ ∀ x H', J.yld i H x H' → WG X tg x σ H' fun σ2 H2 => WSs X body { E with nx := N, ct := N, bk := E.nx } σ2 H2) := by
  obtain ⟨a, ha, hJ⟩ := hJ
  refine ⟨fun i m σ H => i + m = n ∧ ∃ s1 w1 fp1, w1.H = H ∧ Rel X.K s0 s1 σ w1 fp1 ∧ Stp w fp w1 fp1 ∧ PostS X wx s0 w fp (forB f b i0 g n m s1) E, ⟨n, by omega, s, w, fp, rfl, R, Stp.refl R.ok, hp⟩, ?_⟩
  rintro i m σ H ⟨hm, s1, w1, fp1, rfl, R1, S1, hp1⟩
  cases m with
  | zero =>
    obtain ⟨ds, xs, h1, h2, h3, hp2⟩ := lstP_go R1 ha hp1
    have q := (hJ w1 xs R1.ok h2).2
    rw [h3.length, h1, show n = i by omega] at q
    exact .inl ⟨q, hp2 σ w1 fp1 R1 S1⟩
  | succ m =>
    obtain ⟨ds, xs, h1, h2, h3, hp2⟩ := lstP_go R1 ha hp1
    have ei : n - (m + 1) = i := by omega
    rw [ei] at hp2
    obtain ⟨d, hd, hp3⟩ := optS_go hp2
    obtain ⟨v, hv, vx⟩ := h3.get hd
    obtain ⟨g1, g2⟩ := (hJ w1 xs R1.ok h2).1 i v d hv vx
    exact .inr ⟨g1, fun σ' H' => ∃ s2 w2 fp2, w2.H = H' ∧ Rel X.K s0 s2 σ' w2 fp2 ∧ Stp w fp w2 fp2 ∧ PostS X wx s0 w fp (forB f b i0 g n m s2) E, fun σ' H' h => ⟨m, by omega, by omega, h⟩, fun x H' y =>
      turn_ok hg hb R1 S1 (g2 x H' y) hp3 fun s2 st2 w2 fp2 R2 S2 hp2 => ⟨s2, w2, fp2, rfl, R2, S2, hp2⟩⟩
theorem cs_for {tg it : Expr} {f : D → Nat → M Unit} {ts : List Nat} {body : List Stmt} {b : M Flow} {src : M Src} {pos : Pos} (ho : PassesOwn (model X.prog X.w) X.A X.env X.xe) (hc : X.calm = true) (hi : CI X wx tg it src) (hg : CG X tg f ts) (hb : CSs X wx body b)
    (hs : ∀ x, foldedSetIterable it X.env x = pure x := by intro _; rfl) : CS X wx (.For tg it body [] pos) (forM src f b) := by
  refine ⟨fun s0 s st w fp E R hp => ⟨_, ps_for ho hc pi_W pg_W pss_W hs, ?_⟩⟩
  refine hi.goS R hp fun z s1 J w1 f1 fp1 R1 r1 n1 S1 hp1 => ?_
  obtain ⟨hz, rfl⟩ := r1
  cases z with
  | fix ds => exact for_fix hg hb R1 hz (PostS.from hp1 S1)
  | bor i g =>
    have hp2 := unp_post R1 (PostS.from hp1 S1)
    exact for_bor hg hb (R1.pinned i) hz hp2
theorem cs_while {c : Expr} {body : List Stmt} {mc : M Bool} {b : M Flow} {n : Nat} {pos : Pos} (ho : PassesOwn (model X.prog X.w) X.A X.env X.xe) (hc : CT X wx c mc) (hb : CSs X wx body b) : CS X wx (.While c body [] pos) (whileM n mc b) := by
  refine ⟨fun s0 s st w fp E R hp => ⟨_, ps_while ho pt_W pss_W, ?_⟩⟩
  refine ⟨fun m σ H => ∃ s1 w1 fp1, w1.H = H ∧ Rel X.K s0 s1 σ w1 fp1 ∧ PostS X wx s0 w1 fp1 (whileM m mc b s1) E, ⟨n, s, w, fp, rfl, R, hp⟩, ?_⟩
  rintro m σ H ⟨s1, w1, fp1, rfl, R1, hp1⟩
  cases m with
  | zero => exact hp1.elim
  | succ m =>
    refine hc.goS R1 hp1 fun k s2 k' w2 f2 fp2 R2 r2 n2 S2 hp2 => ?_
    obtain ⟨rfl, rfl⟩ := r2
    have hp3 := PostS.from hp2 S2
    cases k with
    | false =>
      rw [if_neg Bool.false_ne_true]
      exact hp3 σ w2 fp2 R2 (Stp.refl R2.ok)
    | true =>
      rw [if_pos rfl]
      refine ⟨fun σ' H' => ∃ s3 w3 fp3, w3.H = H' ∧ Rel X.K s0 s3 σ' w3 fp3 ∧ PostS X wx s0 w3 fp3 (whileM m mc b s3) E, fun σ' H' h => ⟨m, by omega, h⟩, ?_⟩
      refine hb.run s0 s2 σ w2 fp2 _ R2 ?_
      rw [if_pos rfl] at hp3
      unfold bnd at hp3
      cases hm : b s2 with
      | ok z s3 =>
        rw [hm] at hp3
        cases z with
        | nx => exact fun st' w' fp' R' S' => ⟨s3, w', fp', rfl, R', PostS.from hp3 S'⟩
        | ct => exact fun st' w' fp' R' S' => ⟨s3, w', fp', rfl, R', PostS.from hp3 S'⟩
        | bk => exact fun st' w' fp' R' S' => hp3 st' w' fp' R' S'
        | rt d k => exact hp3
      | ex y s3 =>
        rw [hm] at hp3
        exact hp3
      | no =>
        rw [hm] at hp3
        exact hp3.elim
end
end Mi

set_option Elab.async false
set_option linter.all false
set_option maxRecDepth 100000
set_option maxHeartbeats 4000000
namespace PySem
open AutoSeq1 (wpAny_loadPart')
set_option maxRecDepth 100000
theorem mi_enumT (l : Addr) (items : Array Value) (n : Nat) (dct : Option Addr) (sl : Array (Option Value)) :
    Meets (Builtin.«enumerate.__new__» ⟨[.type "enumerate", .ref l], []⟩) (fun _ R s => s.heap.get? l = some { cls := .type "tuple", dict := dct, data := .seq items n, slots := sl } ∧
      R (.ok (.ret (.ref (s.heap.push { cls := .type "tuple_iterator", data := .fields #[.ref l, .int 0 0] }).objs.size)))
        { s with heap := (s.heap.push { cls := .type "tuple_iterator", data := .fields #[.ref l, .int 0 0] }).push { cls := .type "enumerate", data := .fields #[.none, .bool false, .ref s.heap.objs.size, rawInt 0, .none, .none] } }) :=
  .of_wp fun prog w A R s h => by
    obtain ⟨hp, g, d, tk, os⟩ := s; obtain ⟨hl, h⟩ := h
    have hsub := sub_enumerate
    have hL : Heap.IsTuple (Shared.heap ⟨hp, g, d, tk, os⟩) l items := ⟨_, hl, rfl, n, rfl⟩
    wp_walk using wpAny_loadPart' hl
    refine wpAny_stack_any fun st => wpAny_pure ?_
    split
    · rename_i c _ _ _ _ _
      cases (c == Value.type "enumerate")
      · wp_walk using wpAny_loadPart' hl, wpAny_pyIter_tuple hL
        exact ⟨_, rfl, h⟩
      · wp_walk using wpAny_loadPart' hl, wpAny_pyIter_tuple hL
        exact ⟨_, rfl, h⟩
    · wp_walk using wpAny_loadPart' hl, wpAny_pyIter_tuple hL
      exact ⟨_, rfl, h⟩
section
variable {prog : Program} {w : World} {A : Around} {E : Value → Shared → Prop} {s : Shared}
theorem mi_call_enumT {l : Addr} {items : Array Value} {Q : Value → Shared → Prop} (hL : s.heap.IsTuple l items)
    (h : ∀ h', IsEnum h' (s.heap.objs.size + 1) s.heap.objs.size 0 .none → h'.IsTupleIter s.heap.objs.size l 0 → h'.objs.size = s.heap.objs.size + 2 →
      (∀ b o, s.heap.get? b = some o → h'.get? b = some o) → Q (.ref (s.heap.objs.size + 1)) { s with heap := h' }) :
    wpAny (model prog w) A (call (.type "enumerate") [.ref l]) Q E s := by
  obtain ⟨⟨c, dct, dt, sl⟩, hl, hc, n, hd⟩ := hL
  replace hc : c = .type "tuple" := hc
  replace hd : dt = .seq items n := hd
  subst hc hd
  refine callType_new F.called_enumerate (by decide) (F.typeCall_enumerate_1 _) (F.newCall_enumerate_1 _) (fun obj => F.args_object_init_2 obj _) F.entry_enumerate_new
    (mi_enumT l items n dct sl) ⟨hl, ?_⟩
  have hz : (s.heap.push { cls := .type "tuple_iterator", data := .fields #[.ref l, .int 0 0] }).objs.size = s.heap.objs.size + 1 := Heap.size_push ..
  show _ ∧ _
  rw [hz]
  have he : IsEnum ((s.heap.push { cls := .type "tuple_iterator", data := .fields #[.ref l, .int 0 0] }).push
      { cls := .type "enumerate", data := .fields #[.none, .bool false, .ref s.heap.objs.size, rawInt 0, .none, .none] }) (s.heap.objs.size + 1) s.heap.objs.size 0 .none := by
    have := Heap.get?_push_size (s.heap.push { cls := .type "tuple_iterator", data := .fields #[.ref l, .int 0 0] })
      (o := { cls := .type "enumerate", data := .fields #[.none, .bool false, .ref s.heap.objs.size, rawInt 0, .none, .none] }) rfl
    rw [hz] at this; exact this
  refine ⟨⟨_, he, rfl⟩, h _ he ⟨_, Heap.get?_push_of_some _ (Heap.get?_push_size _ rfl), rfl, rfl⟩ (by rw [Heap.size_push, hz]) fun b o x => Heap.get?_push_of_some _ (Heap.get?_push_of_some _ x)⟩
end
theorem Draws.tupleM {prog : Program} {w : World} {A : Around} (hh : A.handled = none) (it l : Addr) (hne : l ≠ it) (items : Array Value) :
    Draws prog w A it [it, l] items.size (fun i v => items[i]? = some v) (fun i h => h.IsTupleIter it l i ∧ h.IsTuple l items) where
  live := fun _ _ st => let ⟨o, ho, _⟩ := st.1; ⟨o, ho⟩
  frame := fun _ _ _ st hk => ⟨st.1.at fun o e => hk it (by simp) o e, let ⟨o, ho, r⟩ := st.2; ⟨o, hk l (by simp) o ho, r⟩⟩
  item := fun i s Q E hi st hQ => by
    refine RZ.nextOf_tuple_item st.1 st.2 (x := items[i]) (by simp [hi]) fun h' hit' hs' => ?_
    exact hQ _ h' s.toks (by simp [hi]) ⟨hit', let ⟨o, ho, r⟩ := st.2; ⟨o, hs'.extBut l o hne ho, r⟩⟩ hs'
  done := fun s Q E st hE => RZ.nextOf_tuple_end hh st.1 st.2 (by simp) hE
end PySem
namespace Mi
open PySem L2
open PyProof.Rows hiding St

/-- what is drawn, with its number: n of them, the i-th is px i; while G stands -/
def Iten (n : Nat) (G : Hp → Prop) (px : Nat → V → Prop) : It :=
  ⟨fun i H => i < n ∧ G H, fun i H v H' => ∃ T x, v = .ref T ∧ H T = none ∧ H' = upd H T (.tup [.int (i : Nat), x]) ∧ px i x, fun i H => i = n ∧ G H⟩
theorem turn_enumD {P : Program} {w : World} {K : PySem.W.Frag} {elts : List Expr} {kk : Nat} {tpos : Pos} {e it : Addr} {n : Nat} {G : Hp → Prop} {px : Nat → V → Prop} {St0 : Nat → Heap → Prop} (hne : e ≠ it)
    (hit : ∀ i h, St0 i h → ∃ o, h.get? it = some o ∧ ∀ v, o.data ≠ .cell v) (hk0 : ∀ i h h', St0 i h → (∀ o, h.get? it = some o → h'.get? it = some o) → St0 i h')
    (mk : ∀ (X : Cx) (pins : List (Addr × Obj)) (σ : St) (H : Hp) (s : Shared) (i : Nat), X.prog = P → X.w = w → X.K = K → Inv X pins σ H s → G H → (∃ o, s.heap.get? e = some o ∧ o.cls = .type "enumerate") → St0 i s.heap →
      ∃ (fpD : List Addr) (Pv : Nat → Value → Prop) (St : Nat → Heap → Prop), e ∉ fpD ∧ (∀ A : Around, A.handled = none → Draws P w A it fpD n Pv St) ∧ St i s.heap ∧ (∀ h, St (i + 1) h → St0 (i + 1) h) ∧ ∀ v, Pv i v → ∃ x, RelV x v ∧ px i x) :
    Turn P w K (.Tuple elts kk tpos) (Iten n G px) [e, it] e (fun i h => (∃ old, IsEnum h e it ((i : Nat) : Int) old) ∧ St0 i h) where
  mem := by simp
  obj := fun i h st b hb => by
    obtain ⟨⟨old, he⟩, hs⟩ := st
    have e' : b = e ∨ b = it := by simpa using hb
    rcases e' with z | z
    · rw [z]; exact ⟨_, he, fun v q => nomatch q⟩
    · rw [z]; exact hit i h hs
  keep := fun i h h' st k => let ⟨⟨old, he⟩, hs⟩ := st; ⟨⟨old, k e (by simp) _ he⟩, hk0 i h h' hs fun o q => k it (by simp) o q⟩
  item := by
    intro X hP hw hK hc i pins s σ H E I hf st hg
    obtain ⟨⟨old, he⟩, hs⟩ := st
    obtain ⟨fpD, Pv, St, hef, D, hs1, hs2, hv⟩ := mk X pins σ H s i hP hw hK I hg.2 ⟨_, he, rfl⟩ hs
    subst hP hw hK
    have hel : e < s.heap.objs.size := Heap.lt_size he
    have hil : it < s.heap.objs.size := by obtain ⟨o, q, _⟩ := hit i _ hs; exact Heap.lt_size q
    refine wpAny_pyNext_enum_itemD (D X.A.in1 (I.ok.hd hc)) he hs1 hg.1 hne hef fun x h' tk hx ho hs' hT hsz hk => ?_
    obtain ⟨xv, ru, px'⟩ := hv x hx
    refine ⟨_, rfl, wpAny_letOwnedTupleGo_enum (s := { s with heap := h', toks := tk + 1 }) ho fun h'' he' sb => ?_⟩
    have hT2 : h''.get? s.heap.objs.size = some { cls := .type "tuple", data := .seq #[.int i tk, x] } := (sb.2 _ (Nat.ne_of_gt hel)).trans hT
    have new : ObjOk X.prog X.w (upd H s.heap.objs.size (.tup [.int (i : Nat), xv])) h'' s.heap.objs.size (.tup [.int (i : Nat), xv]) :=
      ⟨by show 2 ≤ sizeLine; decide, [.int i tk, x], .cons ⟨_, rfl⟩ (.cons ru .nil), ⟨_, hT2, rfl, _, rfl⟩⟩
    have I1 : Inv X pins σ (upd H s.heap.objs.size (.tup [.int (i : Nat), xv])) { s with heap := h'', toks := tk + 1 } :=
      I.turnedNew (ch := [e, it]) (fun b ob hb q => (sb.2 b (fun z => hb (by simp [z]))).trans (hk b ob (fun z => hb (by simp [z])) (fun z => hb (by simp [z])) q)) hf (Nat.le_refl _) new
    refine ⟨.ref s.heap.objs.size, _, I1, rfl, ⟨_, xv, rfl, I.hok.fresh (Nat.le_refl _), rfl, px'⟩, ⟨⟨x, ?_⟩, hs2 _ ((D X.A.in1 (I.ok.hd hc)).frame _ _ _ hs' fun b hb o q => (sb.2 b fun z => hef (z ▸ hb)).trans q)⟩, fun b hb => ?_⟩
    · have e1 : ((i + 1 : Nat) : Int) = (i : Int) + 1 := by omega
      rw [e1]; exact he'
    · have hb' : b < s.heap.objs.size := by
        have e' : b = e ∨ b = it := by simpa using hb
        rcases e' with z | z
        · rw [z]; exact hel
        · rw [z]; exact hil
      rw [upd_ne (Nat.ne_of_lt hb')]
      exact (hf b hb).1
  done := by
    intro X hP hw hK hc i pins s σ H E I hf st hg
    obtain ⟨⟨old, he⟩, hs⟩ := st
    obtain ⟨fpD, Pv, St, hef, D, hs1, hs2, hv⟩ := mk X pins σ H s i hP hw hK I hg.2 ⟨_, he, rfl⟩ hs
    subst hP hw hK
    obtain ⟨f0, f1, f2, f3, f4, f5⟩ := hf it (by simp)
    rw [hg.1] at hs1
    exact wpAny_pyNext_enum_endD (D X.A.in1 (I.ok.hd hc)) he hs1 fun h' eb => ⟨rfl, I.turned (t' := s.toks) (fun b o hb q => eb b o hb q) f0 f1 f3 f4 f5⟩
  self := fun A i s Q E st h => let ⟨⟨_, he⟩, _⟩ := st; wpAny_pyIter_enum he h
/-- enumerate of a list, a tuple, a text -/
def iEnumA (K : PySem.W.Frag) (ta : TA) : TI := fun σ H R => ta σ H fun vs H1 => (∃ a xs, vs = [.ref a] ∧ SqL K H1 a xs ∧ R (Ite K a) H1) ∨
  (∃ a xs, vs = [.ref a] ∧ SqT K H1 a xs ∧ R (Iten xs.length (fun H => SqT K H a xs) fun i x => xs[i]? = some x) H1) ∨
  ∃ z : Str, vs = [.str z] ∧ R (Iten z.cps.size (fun _ => True) fun i x => ∃ c, z.cps[i]? = some c ∧ x = .str ⟨#[c]⟩) H1
theorem pi_enumA {X : Cx} {e : Expr} {ta : TA} {p pos tpos : Pos} {elts : List Expr} {kk : Nat} (hg : Gl X "enumerate") (hm : X.mg "enumerate" = none) (ha : PA X [e] ta) (hs : starEach [e] X.env = [(false, eval e X.env)] := by rfl) :
    PI X (.Tuple elts kk tpos) (.Call (.Name "enumerate" p) [e] [] pos) (iEnumA X.K ta) := by
  refine ⟨fun pins s σ H R I h => ?_⟩
  refine Call_ (ld_blt I hg hm boot_enumerate (PyProof.Rows.callWith_type1 (thn (ha.run pos pins s σ H _ I h) fun us s1 ⟨vs, H1, I1, r1, q1⟩ => ?_) hs rfl))
  have fresh : ∀ b, b ∈ [s1.heap.objs.size + 1, s1.heap.objs.size] → FpOk X pins H1 b := fun b hb => by
    have e' : b = s1.heap.objs.size + 1 ∨ b = s1.heap.objs.size := by simpa using hb
    have hle : s1.heap.objs.size ≤ b := by
      rcases e' with z | z
      · rw [z]; exact Nat.le_add_right _ _
      · rw [z]; exact Nat.le_refl _
    exact I1.fpOk hle (I1.hok.fresh hle)
  rcases q1 with ⟨a, xs, ex, hq, q⟩ | ⟨a, xs, ex, hq, q⟩ | ⟨z, ex, q⟩
  · subst ex
    cases r1 with
    | cons r rr =>
      cases rr
      cases r
      obtain ⟨its, rv, p', hz⟩ := I1.list hq
      refine call_enumerate_list p'.isList fun h' he hit hsz hk => wpAny_pyIter_enum he ?_
      have I2 : Inv X pins σ H1 { s1 with heap := h' } := I1.kept (t' := s1.toks) hk
      exact ⟨s1.heap.objs.size + 1, [s1.heap.objs.size + 1, s1.heap.objs.size], _, _, H1, rfl, I2, turn_enum a (s1.heap.objs.size + 1) s1.heap.objs.size, ⟨⟨.none, he⟩, hit, Nat.succ_ne_self _⟩, fresh, q⟩
  · subst ex
    cases r1 with
    | cons r rr =>
      cases rr
      cases r
      obtain ⟨its, rv, p', hz⟩ := I1.tuple hq
      refine mi_call_enumT (show s1.heap.IsTuple a its.toArray from p') fun h' he hit hsz hk => wpAny_pyIter_enum he ?_
      have I2 : Inv X pins σ H1 { s1 with heap := h' } := I1.kept (t' := s1.toks) hk
      refine ⟨s1.heap.objs.size + 1, [s1.heap.objs.size + 1, s1.heap.objs.size], _, _, H1, rfl, I2, turn_enumD (St0 := fun i h => h.IsTupleIter s1.heap.objs.size a i) (Nat.succ_ne_self _) (fun i h st => ?_) (fun i h h' st k => st.at k) ?_, ⟨⟨.none, he⟩, hit⟩, fresh, q⟩
      · obtain ⟨o, h1, h2, h3⟩ := st
        exact ⟨o, h1, fun v z => by rw [h3] at z; cases z⟩
      · intro X' pins' σ' H' s' i hP hw hK I' hG hn st
        have hG' : SqT X'.K H' a xs := by rw [hK]; exact hG
        obtain ⟨its', rv', p2, _⟩ := I'.tuple hG'
        have p3 : s'.heap.IsTuple a its'.toArray := p2
        have hsz' : its'.toArray.size = xs.length := by rw [List.size_toArray]; exact rv'.length.symm
        obtain ⟨oa, hoa, hca, _⟩ := id p3
        obtain ⟨oi, hoi, hci, _⟩ := id st
        have hne : a ≠ s1.heap.objs.size := fun z => by
          rw [← z, hoa] at hoi
          cases hoi
          rw [hca] at hci
          injection hci with q
          exact absurd q (by decide)
        refine ⟨[s1.heap.objs.size, a], fun i v => its'.toArray[i]? = some v, fun i h => h.IsTupleIter s1.heap.objs.size a i ∧ h.IsTuple a its'.toArray, fun m => ?_, fun A hA => ?_, ⟨st, p3⟩, fun h k => k.1, fun v hv => ?_⟩
        · have e' : s1.heap.objs.size + 1 = s1.heap.objs.size ∨ s1.heap.objs.size + 1 = a := by simpa using m
          rcases e' with z | z
          · omega
          · obtain ⟨oe, h1, h2⟩ := hn
            rw [z, hoa] at h1
            cases h1
            rw [hca] at h2
            injection h2 with q
            exact absurd q (by decide)
        · rw [← hsz']
          exact PySem.Draws.tupleM hA _ _ hne _
        · have hv' : its'[i]? = some v := by simpa using hv
          have hl : i < xs.length := by
            rw [rv'.length]
            exact (List.getElem?_eq_some_iff.mp hv').1
          obtain ⟨u, h1, h2⟩ := rv'.get (List.getElem?_eq_getElem hl)
          rw [hv'] at h1
          cases h1
          exact ⟨_, h2, List.getElem?_eq_getElem hl⟩
  · subst ex
    cases r1 with
    | cons r rr =>
      cases rr
      obtain ⟨t, rfl⟩ := r
      refine call_enumerate_str fun h' he hit hsz hk => wpAny_pyIter_enum he ?_
      have I2 : Inv X pins σ H1 { s1 with heap := h' } := I1.kept (t' := s1.toks) hk
      refine ⟨s1.heap.objs.size + 1, [s1.heap.objs.size + 1, s1.heap.objs.size], _, _, H1, rfl, I2, turn_enumD (St0 := fun i h => h.IsStrIter s1.heap.objs.size (strIterType z) z t i) (Nat.succ_ne_self _) (fun i h st => ?_) (fun i h h' st k => ?_) ?_, ⟨⟨.none, he⟩, hit⟩, fresh, q⟩
      · obtain ⟨o, h1, h2, h3⟩ := st
        exact ⟨o, h1, fun v z => by rw [h3] at z; cases z⟩
      · obtain ⟨o, h1, h2⟩ := st
        exact ⟨o, k o h1, h2⟩
      · intro X' pins' σ' H' s' i hP hw hK I' hG hn st
        refine ⟨[s1.heap.objs.size], fun i v => ∃ c u, z.cps[i]? = some c ∧ v = .str ⟨#[c]⟩ u, fun i h => h.IsStrIter s1.heap.objs.size (strIterType z) z t i, by simp, fun A hA => ?_, st, fun h k => k, fun v hv => ?_⟩
        · unfold strIterType
          split
          · exact Draws.strAscii hA _ _ _
          · exact Draws.strWide hA _ _ _
        · obtain ⟨c, u, h1, rfl⟩ := hv
          exact ⟨.str ⟨#[c]⟩, ⟨u, rfl⟩, c, h1, rfl⟩
end Mi

set_option Elab.async false
set_option linter.all false
set_option maxRecDepth 100000
set_option maxHeartbeats 4000000
namespace Mi
open PySem L2

/-! ### anything gone through: its value -/
def rIt (K : PySem.W.Frag) (x : V) (H : Hp) (R : It → Hp → Prop) : Prop :=
  (∃ a xs, x = .ref a ∧ SqL K H a xs ∧ R (Itl K a) H) ∨ (∃ a xs, x = .ref a ∧ SqT K H a xs ∧ R (Itt K a) H) ∨ (∃ z, x = .str z ∧ R (Its z) H) ∨
  (∃ d o kvs, x = .ref d ∧ H d = some (.frz o (.dK kvs)) ∧ R (Itk d o kvs) H) ∨ (∃ d kvs, x = .ref d ∧ H d = some (.dK kvs) ∧ ∀ od, R (Itk d od kvs) (upd H d (.frz od (.dK kvs))))
def iAny (K : PySem.W.Frag) (te : TE) : TI := fun σ H R => te σ H fun x H1 => rIt K x H1 R
section
variable {X : Cx}
theorem pi_any {tg e : Expr} {te : TE} (he : PE X e te) : PI X tg e (iAny X.K te) := by
  refine ⟨fun pins s σ H R I h => ?_⟩
  refine thn (he.run pins s σ H _ I h) fun v s1 ⟨x, H1, I1, r1, q1⟩ => ?_
  rcases q1 with ⟨a, xs, e, hq, q⟩ | ⟨a, xs, e, hq, q⟩ | ⟨z, e, q⟩ | ⟨d, o, kvs, e, hd, q⟩ | ⟨d, kvs, e, hd, q⟩
  · subst e
    cases r1
    obtain ⟨its, rv, p, hz⟩ := I1.list hq
    exact wpAny_pyIter_list p.isList (pi_one (tk := s1.toks) I1 _ (turn_list a _) ⟨_, Heap.get?_push_size _ rfl, rfl, rfl⟩ q)
  · subst e
    cases r1
    obtain ⟨its, rv, p, hz⟩ := I1.tuple hq
    exact wpAny_pyIter_tuple (show s1.heap.IsTuple a its.toArray from p) (pi_one (tk := s1.toks) I1 _ (turn_tuple a _) ⟨_, Heap.get?_push_size _ rfl, rfl, rfl⟩ q)
  · subst e
    obtain ⟨t, rfl⟩ := r1
    cases ha : z.cps.all (· < 128)
    · exact wpAny_pyIter_wide ha (pi_one (tk := s1.toks) I1 _ (turn_str _ z t "str_iterator" (.inr rfl)) ⟨_, Heap.get?_push_size _ rfl, rfl, rfl⟩ q)
    · exact wpAny_pyIter_ascii ha (pi_one (tk := s1.toks) I1 _ (turn_str _ z t "str_ascii_iterator" (.inl rfl)) ⟨_, Heap.get?_push_size _ rfl, rfl, rfl⟩ q)
  · subst e
    obtain rfl : v = Value.ref d := r1
    obtain ⟨hs, hgd, hx, es, ep, vs, hdt, hsz, kv, hm⟩ := I1.frzK hd
    refine iter_keys hs hgd hx hdt (pi_one (tk := s1.toks) I1 _ (turn_keys _ hdt) ⟨_, Heap.get?_push_size _ rfl, rfl, ?_⟩ q)
    rw [hsz] <;> rfl
  · subst e
    obtain rfl : v = Value.ref d := r1
    obtain ⟨od, I2⟩ := I1.lock hd (by trivial)
    obtain ⟨hs, hgd, hx, es, ep, vs, hdt, hsz, kv, hm⟩ := I2.frzK upd_same
    refine iter_keys hs hgd hx hdt (pi_one (tk := s1.toks) I2 _ (turn_keys _ hdt) ⟨_, Heap.get?_push_size _ rfl, rfl, ?_⟩ (q od))
    rw [hsz] <;> rfl
end

/-! ### by value -/
def sgn (c : Nat) : D := .str ⟨#[c]⟩
def sgns (z : Str) : List D := z.cps.toList.map sgn
def keyD : Key → D
  | .inl i => .int i
  | .inr x => .str x
def keysD (kvs : List (Key × D)) : List D := kvs.map fun p => keyD p.1
/-- the items of what stands frozen -/
def itD : D → Option (List D)
  | .tup ds => some ds
  | .lst ds => some ds
  | .str z => some (sgns z)
  | .scr ds => some ds
  | .dct kvs => some (keysD kvs)
  | _ => none
def srcOf : Op → M Src := fun o s => match o with
  | .val d k => match d with
    | .lst ds => match k with
      | 0 => .ok (.fix ds) s
      | k + 1 => if ds.all (fzOk k) then .ok (.fix ds) s else .no
    | .dct kvs => if k ≤ 1 then .ok (.fix (keysD kvs)) s else .no
    | d => match itD d with
      | some ds => .ok (.fix ds) s
      | none => .no
  | .slot i => match s.r[i]? with
    | some (some ⟨.lst ds, 0, _⟩) => .ok (.fix ds) s
    | some (some ⟨.lst _, 1, _⟩) => .ok (.bor i fun _ d => d) s
    | some (some ⟨.lst _, _, _⟩) => .no
    | some (some ⟨.dct kvs, 0, _⟩) => .ok (.fix (keysD kvs)) s
    | some (some ⟨.dct kvs, 1, p⟩) => .ok (.fix (keysD kvs)) { s with r := s.r.set i (some ⟨.dct kvs, 0, p⟩) }
    | some (some ⟨.dct _, _, _⟩) => .no
    | some (some ⟨d, _, _⟩) => match itD d with
      | some ds => .ok (.fix ds) s
      | none => .no
    | _ => .no
def srcM (m : M Op) : M Src := bnd m srcOf
section
variable {K : PySem.W.Frag} {w : Wd}
theorem yl_same {d : D} {x : V} (ok : w.Ok) (h : Vx (w.fz K) d x) : Yl K w d x w.H := ⟨w, rfl, Stp.refl ok, rfl, h⟩
theorem fix_list {a : Addr} {ds : List D} {xs : List V} (hF : w.F a = some (.lst xs) ∨ SqL K w.F a xs) (t : VxL (w.fz K) ds xs) : FixR K w ds (Itl K a) := by
  intro w' ok L
  have hq : SqL K w'.H a xs := by
    rcases hF with hF | hF
    · exact .inl (.inl (ok _ _ (L.sq _ _ hF)))
    · exact SqL.up (fun o e => ok _ _ e) (L.sc _ _ hF)
  have t' := VxL.mono L _ _ t
  have W := walk_list (K := K) (a := a) (xs := xs)
  refine ⟨fun i d hd => ?_, by rw [← t.length]; exact W.stops _ hq⟩
  obtain ⟨v, hv, vx⟩ := t'.get hd
  have hi : i < xs.length := (List.getElem?_eq_some_iff.mp hv).1
  refine ⟨W.goes i _ hi hq, fun x H' y => ?_⟩
  obtain ⟨rfl, hx⟩ := W.yields i _ x H' hi hq y
  rw [hv] at hx
  cases hx
  exact yl_same ok vx
theorem fix_tup {a : Addr} {ds : List D} {xs : List V} (hF : w.F a = some (.tup xs)) (t : VxL (w.fz K) ds xs) : FixR K w ds (Itt K a) := by
  intro w' ok L
  have hq : SqT K w'.H a xs := SqT.of (ok _ _ (L.sq _ _ hF))
  have t' := VxL.mono L _ _ t
  have W := walk_tup (K := K) (a := a) (xs := xs)
  refine ⟨fun i d hd => ?_, by rw [← t.length]; exact W.stops _ hq⟩
  obtain ⟨v, hv, vx⟩ := t'.get hd
  have hi : i < xs.length := (List.getElem?_eq_some_iff.mp hv).1
  refine ⟨W.goes i _ hi hq, fun x H' y => ?_⟩
  obtain ⟨rfl, hx⟩ := W.yields i _ x H' hi hq y
  rw [hv] at hx
  cases hx
  exact yl_same ok vx
theorem sgns_get {z : Str} {i : Nat} {d : D} (h : (sgns z)[i]? = some d) : ∃ c, z.cps[i]? = some c ∧ d = sgn c := by
  unfold sgns at h
  rw [List.getElem?_map] at h
  cases hc : z.cps.toList[i]? with
  | none =>
    rw [hc] at h
    cases h
  | some c =>
    rw [hc] at h
    cases h
    exact ⟨c, by simpa using hc, rfl⟩
theorem fix_str {z : Str} : FixR K w (sgns z) (Its z) := by
  intro w' ok L
  have W := walk_str (z := z)
  have hl : (sgns z).length = z.cps.size := by
    unfold sgns
    rw [List.length_map, Array.length_toList]
  refine ⟨fun i d hd => ?_, by rw [hl]; exact W.stops _ trivial⟩
  obtain ⟨c, hc, rfl⟩ := sgns_get hd
  have hi : i < z.cps.size := (Array.getElem?_eq_some_iff.mp hc).1
  refine ⟨W.goes i _ hi trivial, fun x H' y => ?_⟩
  obtain ⟨rfl, c', hc', rfl⟩ := W.yields i _ x H' hi trivial y
  rw [hc] at hc'
  cases hc'
  exact yl_same ok rfl
theorem VxD.len {r : Rp} : ∀ {ds : List (Key × D)} {kv : List (Key × V)}, VxD r ds kv → kv.length = ds.length
  | [], _, h => by rw [show _ = [] from h] <;> rfl
  | (k, d) :: ds, _, ⟨v, t, e, h, g⟩ => by rw [e, List.length_cons, List.length_cons, VxD.len g]
theorem VxD.key {r : Rp} : ∀ {ds : List (Key × D)} {kv : List (Key × V)} {i : Nat} {d : D}, VxD r ds kv → (keysD ds)[i]? = some d → ∃ k v, kv[i]? = some (k, v) ∧ d = keyD k
  | [], _, _, _, _, e => by cases e
  | (k, d) :: ds, _, 0, _, ⟨v, t, e, h, g⟩, z => by
    cases z
    exact ⟨k, v, by rw [e] <;> rfl, rfl⟩
  | (k, d) :: ds, _, i + 1, _, ⟨v, t, e, h, g⟩, z => by
    obtain ⟨k', v', h1, h2⟩ := VxD.key (i := i) g z
    exact ⟨k', v', by rw [e] <;> exact h1, h2⟩
theorem keyD_vx {r : Rp} : ∀ k : Key, Vx r (keyD k) (kV k)
  | .inl _ => rfl
  | .inr _ => rfl
theorem fix_keys {d : Addr} {o : Obj} {ds : List (Key × D)} {kvs : List (Key × V)} (hF : w.F d = some (.frz o (.dK kvs))) {r : Rp} (t : VxD r ds kvs) : FixR K w (keysD ds) (Itk d o kvs) := by
  intro w' ok L
  have hq : w'.H d = some (.frz o (.dK kvs)) := ok _ _ (L.sq _ _ hF)
  have W := walk_keys (d := d) (o := o) (kvs := kvs)
  have hl : (keysD ds).length = kvs.length := by
    unfold keysD
    rw [List.length_map, t.len]
  refine ⟨fun i d' hd => ?_, by rw [hl]; exact W.stops _ hq⟩
  obtain ⟨k, v, hk, rfl⟩ := t.key hd
  have hi : i < kvs.length := (List.getElem?_eq_some_iff.mp hk).1
  refine ⟨W.goes i _ hi hq, fun x H' y => ?_⟩
  obtain ⟨rfl, k', v', hk', rfl⟩ := W.yields i _ x H' hi hq y
  rw [hk] at hk'
  cases hk'
  exact yl_same ok (keyD_vx k)
/-- a dict's lock -/
def Wd.lck (w : Wd) (d : Addr) (u : HO) : Wd := { w with H := upd w.H d u, F := upd w.F d u }
theorem lck_ok {d : Addr} {u : HO} (ok : w.Ok) : (w.lck d u).Ok := fun a o e => by
  have e' : upd w.F d u a = some o := e
  show upd w.H d u a = some o
  by_cases ha : a = d
  · subst ha
    rw [upd_same] at e' ⊢
    exact e'
  · rw [upd_ne ha] at e' ⊢
    exact ok a o e'
theorem lck_stp {d : Addr} {u : HO} {fp fp' : List Addr} (ok : w.Ok) (hd : d ∈ fp) (hn : w.F d = none) (hs : ∀ x ∈ fp', x ∈ fp) : Stp w fp (w.lck d u) fp' := by
  refine ⟨fun a o e => ?_, fun a o e n => ?_, fun a o e n => ?_, fun x m => .inl (hs x m), Nat.le_refl _, fun _ _ => rfl, lck_ok ok⟩
  · show upd w.F d u a = some o
    rw [upd_ne (ne_of_none e hn)]
    exact e
  · show upd w.H d u a = some o
    rw [upd_ne (fun z => n (by rw [z]; exact hd))]
    exact e
  · show upd w.F d u a = w.F a
    exact upd_ne (fun z => n (by rw [z]; exact hd))
end
section
variable {X : Cx} {wx : WX} {s0 st : St} {s s' : Sx} {w w0 w1 : Wd} {fp fp0 fp1 fo g : List Addr} {Q : It → Hp → Prop}
theorem fix_end {ds : List D} {J : It} (hp : Post X wx (RI X.K st) s0 st w0 fp0 (.ok (.fix ds) s) Q) (R : Rel X.K s0 s st w fp) (S : Stp w0 fp0 w (g ++ fp)) (h : FixR X.K w ds J) : Q J w.H :=
  hp J w [] fp R ⟨h, rfl⟩ R.nd (S.dropL)
theorem rit_vx {d : D} {v : V} {ds : List D} (hv : Vx (w.fz X.K) d v) (ok : w.Ok) (e : itD d = some ds) (h : ∀ J, FixR X.K w ds J → Q J w.H) : rIt X.K v w.H Q := by
  cases d with
  | tup es =>
    cases e
    obtain ⟨a, xs, e1, q, t⟩ := hv
    exact .inr (.inl ⟨a, xs, e1, SqT.of (ok a _ q), h _ (fix_tup q t)⟩)
  | lst es =>
    cases e
    obtain ⟨a, xs, e1, q, t⟩ := hv
    exact .inl ⟨a, xs, e1, .inl (.inl (ok a _ q)), h _ (fix_list (.inl q) t)⟩
  | str z =>
    cases e
    exact .inr (.inr (.inl ⟨z, hv, h _ fix_str⟩))
  | scr es =>
    cases e
    obtain ⟨a, xs, e1, q, t⟩ := hv
    exact .inl ⟨a, xs, e1, SqL.up (fun o e => ok a o e) q, h _ (fix_list (.inr q) t)⟩
  | dct kvs =>
    cases e
    obtain ⟨a, kv, e1, ⟨ob, q⟩, t⟩ := hv
    exact .inr (.inr (.inr (.inl ⟨a, ob, kv, e1, ok a _ q, h _ (fix_keys q t)⟩)))
  | _ => cases e
theorem ow_leaf {K : PySem.W.Frag} {k : Nat} {d : D} {v : V} {f : List Addr} (h : Ow K w k d v f) (hl : ∀ ds, d ≠ .lst ds) (hd : ∀ kvs, d ≠ .dct kvs) (ht : ∀ kvs, d ≠ .dcT kvs) : Vx (w.fz K) d v ∧ f = [] := by
  cases k with
  | zero => exact h
  | succ k =>
    cases d with
    | lst ds => exact absurd rfl (hl ds)
    | dct ds => exact absurd rfl (hd ds)
    | dcT ds => exact absurd rfl (ht ds)
    | _ => exact h
theorem rel_frz {K : PySem.W.Frag} {f : List Addr} (R : Rel K s0 s st w fp) (hd : ∀ x ∈ fp, x ∉ f) : Rel K s0 s st (w.frz f) fp :=
  R.keep (frz_le R.ok f) (Wd.frz_ok R.ok f) rfl fun x hx o e n => ⟨e, (if_neg (hd x hx)).trans n⟩
theorem rel_lck {K : PySem.W.Frag} {d : Addr} {u : HO} (R : Rel K s0 s st w fp) (hn : w.F d = none) (hd : d ∉ fp) : Rel K s0 s st (w.lck d u) fp := by
  have S : Stp w [d] (w.lck d u) [] := lck_stp R.ok (List.mem_singleton_self _) hn fun x m => nomatch m
  exact R.keep S.fz S.ok rfl fun x hx o e n => ⟨S.hp x o e fun m => hd (by rw [← List.mem_singleton.mp m]; exact hx), (S.un x o e fun m => hd (by rw [← List.mem_singleton.mp m]; exact hx)).trans n⟩
theorem src_go {o : Op} {v : V} (R : Rel X.K s0 s st w fp) (h : OpR X.K st w o v fo) (n : (fo ++ fp).Nodup) (S : Stp w0 fp0 w (fo ++ fp)) (hp : Post X wx (RI X.K st) s0 st w0 fp0 (srcOf o s) Q) : rIt X.K v w.H Q := by
  have hdis := nd_dis n
  cases o with
  | val d k =>
    have leafy : (∀ ds, d ≠ .lst ds) → (∀ kvs, d ≠ .dct kvs) → (∀ kvs, d ≠ .dcT kvs) → ∀ ds, itD d = some ds → Post X wx (RI X.K st) s0 st w0 fp0 (.ok (.fix ds) s) Q → rIt X.K v w.H Q := fun a b c ds e hp => by
      obtain ⟨vx, rfl⟩ := ow_leaf h a b c
      exact rit_vx vx R.ok e fun J hJ => fix_end hp R S hJ
    cases d with
    | lst ds =>
      cases k with
      | zero => exact rit_vx h.1 R.ok rfl fun J hJ => fix_end hp R S hJ
      | succ k =>
        have hp' : Post X wx (RI X.K st) s0 st w0 fp0 (if ds.all (fzOk k) then .ok (.fix ds) s else .no) Q := hp
        split at hp'
        · rename_i hz
          have vx := frz_vx (K := X.K) R.ok fo (fun _ m => m) (show fzOk (k + 1) (.lst ds) = true from hz) h
          have R' := rel_frz R (f := fo) fun x hx hx' => hdis x hx' hx
          have S' : Stp w0 fp0 (w.frz fo) fp := S.trans (frz_stp R.ok (fun x m => List.mem_append_left _ m) fun x m => List.mem_append_right _ m)
          exact rit_vx (w := w.frz fo) vx R'.ok rfl fun J hJ => hp' J (w.frz fo) [] fp R' ⟨hJ, rfl⟩ R'.nd S'
        · exact hp'.elim
    | dct kvs =>
      have hp' : Post X wx (RI X.K st) s0 st w0 fp0 (if k ≤ 1 then .ok (.fix (keysD kvs)) s else .no) Q := hp
      split at hp'
      · rename_i hk
        match k, h, hk with
        | 0, h, _ => exact rit_vx h.1 R.ok rfl fun J hJ => fix_end hp' R S hJ
        | 1, h, _ =>
          obtain ⟨p, kv, g', e1, h1, n1, e2, t⟩ := h
          refine .inr (.inr (.inr (.inr ⟨p, kv, e1, h1, fun od => ?_⟩)))
          have hm : p ∈ fo := by rw [e2]; exact List.mem_cons_self ..
          have R' := rel_lck (u := .frz od (.dK kv)) R n1 (hdis p hm)
          have S' : Stp w0 fp0 (w.lck p (.frz od (.dK kv))) fp := S.trans (lck_stp R.ok (List.mem_append_left _ hm) n1 fun x m => List.mem_append_right _ m)
          exact hp' _ (w.lck p (.frz od (.dK kv))) [] fp R' ⟨fix_keys upd_same (all0D t), rfl⟩ R'.nd S'
        | k + 2, _, hk => omega
      · exact hp'.elim
    | dcT kvs => exact hp.elim
    | non => exact hp.elim
    | bl _ => exact hp.elim
    | int _ => exact hp.elim
    | str z => exact leafy (by simp) (by simp) (by simp) _ rfl hp
    | tup es => exact leafy (by simp) (by simp) (by simp) _ rfl hp
    | set _ => exact hp.elim
    | obj _ => exact hp.elim
    | glb _ => exact hp.elim
    | exc _ _ => exact hp.elim
    | ty _ => exact hp.elim
    | scr es => exact leafy (by simp) (by simp) (by simp) _ rfl hp
  | slot i =>
    obtain ⟨h1, h2⟩ := h
    subst h2
    obtain ⟨fe, fs, ef, q1, q2⟩ := R.parts
    have hp' := hp
    unfold srcOf at hp'
    dsimp only at hp'
    have at' : ∀ {sl : Slot}, s.r[i]? = some (some sl) → ∃ f, Ow X.K w sl.k sl.d v f ∧ (∀ x ∈ f, x ∈ fe) ∧ ∃ f1 f2, fe = f1 ++ f ++ f2 ∧ ∀ (o' : Option Slot) f', SlR X.K w o' (some v) f' → All3 (SlR X.K w) (s.r.set i o') st (f1 ++ f' ++ f2) := fun {sl} e => by
      obtain ⟨b, f1, f, f2, hb, hf, hpp, hset⟩ := q1.at e
      rw [h1] at hb
      cases hb
      refine ⟨f, hpp, fun x m => by rw [hf]; simp [m], f1, f2, hf, fun o' f' h' => ?_⟩
      have q := hset o' (some v) f' h'
      have est : st.set i (some v) = st := by
        apply List.ext_getElem?
        intro j
        by_cases hj : j = i
        · subst hj
          rw [List.getElem?_set_self (List.getElem?_eq_some_iff.mp h1).1, h1]
        · rw [List.getElem?_set_ne (Ne.symm hj)]
      rw [est] at q
      exact q
    split at hp'
    · rename_i ds p e
      obtain ⟨f, ow, _⟩ := at' e
      exact rit_vx ow.1 R.ok rfl fun J hJ => fix_end hp' R S hJ
    · rename_i ds p e
      obtain ⟨f, ow, _⟩ := at' e
      obtain ⟨a, xs, g', e1, h3, n1, e2, t⟩ := (show Ow X.K w 1 (.lst ds) v f from ow)
      subst e1
      refine .inl ⟨a, xs, rfl, .inl (.inl h3), hp' _ w [] fp R ⟨⟨a, h1, fun w' ys ok' hy => ?_⟩, rfl⟩ R.nd S⟩
      have hq : SqL X.K w'.H a ys := .inl (.inl hy)
      have W := walk_list (K := X.K) (a := a) (xs := ys)
      refine ⟨fun j v' d' hj vx => ?_, W.stops _ hq⟩
      have hi : j < ys.length := (List.getElem?_eq_some_iff.mp hj).1
      refine ⟨W.goes j _ hi hq, fun x H' y => ?_⟩
      obtain ⟨rfl, hx⟩ := W.yields j _ x H' hi hq y
      rw [hj] at hx
      cases hx
      exact yl_same ok' vx
    · exact hp'.elim
    · rename_i ds p e
      obtain ⟨f, ow, _⟩ := at' e
      exact rit_vx ow.1 R.ok rfl fun J hJ => fix_end hp' R S hJ
    · rename_i kvs p e
      obtain ⟨f, ow, hsub, f1, f2, hfe, hset⟩ := at' e
      obtain ⟨a, kv, g', e1, h3, n1, e2, t⟩ := (show Ow X.K w 1 (.dct kvs) v f from ow)
      subst e1
      refine .inr (.inr (.inr (.inr ⟨a, kv, rfl, h3, fun od => ?_⟩)))
      have hm : a ∈ f := by rw [e2]; exact List.mem_cons_self ..
      have nd0 : (f1 ++ f ++ f2 ++ fs).Nodup := by
        rw [← hfe, ← ef]
        exact R.nd
      have hsub2 : ∀ x ∈ f1 ++ [] ++ f2 ++ fs, x ∈ fp := fun x m => by
        rw [ef, hfe]
        simp only [List.append_nil, List.mem_append] at m ⊢
        grind
      have hna : a ∉ f1 ++ [] ++ f2 ++ fs := fun m => by
        simp only [List.append_nil, List.nodup_append, List.mem_append] at nd0 m
        grind
      have hafp : a ∈ fp := by
        rw [ef, hfe]
        simp [hm]
      have SL : Stp w fp (w.lck a (.frz od (.dK kv))) (f1 ++ [] ++ f2 ++ fs) := lck_stp R.ok hafp n1 hsub2
      have kp : ∀ x ∈ f1 ++ [] ++ f2 ++ fs, ∀ o, w.H x = some o → w.F x = none → (w.lck a (.frz od (.dK kv))).H x = some o ∧ (w.lck a (.frz od (.dK kv))).F x = none := fun x m o ho hn => by
        have hxa : x ≠ a := fun z => hna (z ▸ m)
        exact ⟨(upd_ne hxa).trans ho, (upd_ne hxa).trans hn⟩
      -- the slot, locked
      have q3 : All3 (SlR X.K (w.lck a (.frz od (.dK kv)))) (s.r.set i (some ⟨.dct kvs, 0, p⟩)) st (f1 ++ [] ++ f2) := by
        have q4 : All3 (SlR X.K (w.lck a (.frz od (.dK kv)))) (s.r.set i none) st (f1 ++ [] ++ f2) := All3.imp (fun a' b' f' _ hf' q => q.keep SL.fz fun x hx => kp x (List.mem_append_left _ (hf' x hx))) (hset none [] rfl)
        have hil : i < s.r.length := (List.getElem?_eq_some_iff.mp e).1
        obtain ⟨b', g1, g, g2, hb', hg, hp2, hset2⟩ := q4.at (i := i) (a := none) (List.getElem?_set_self hil)
        have eg : g = [] := hp2
        have q5 := hset2 (some ⟨.dct kvs, 0, p⟩) (some (.ref a)) [] ⟨⟨a, kv, rfl, ⟨od, upd_same⟩, VxD.mono SL.fz _ _ (all0D t)⟩, rfl⟩
        have est : st.set i (some (.ref a)) = st := by
          apply List.ext_getElem?
          intro j
          by_cases hj : j = i
          · subst hj
            rw [List.getElem?_set_self (List.getElem?_eq_some_iff.mp h1).1, h1]
          · rw [List.getElem?_set_ne (Ne.symm hj)]
        rw [List.set_set, est] at q5
        rw [hg, eg]
        exact q5
      have R' : Rel X.K s0 { s with r := s.r.set i (some ⟨.dct kvs, 0, p⟩) } st (w.lck a (.frz od (.dK kv))) (f1 ++ [] ++ f2 ++ fs) := by
        refine ⟨SL.ok, R.N, ⟨_, fs, rfl, q3, q2.keep SL.fz (by have := R.N; show 0 + s.S.length ≤ w.N; omega) fun x hx => kp x (List.mem_append_right _ hx)⟩, ?_, fun j sl hj hpj => ?_⟩
        · simp only [List.append_nil, List.nodup_append, List.mem_append] at nd0 ⊢
          grind
        · by_cases hji : j = i
          · subst hji
            have hj' : (s.r.set j (some ⟨.dct kvs, 0, p⟩))[j]? = some (some sl) := hj
            rw [List.getElem?_set_self (List.getElem?_eq_some_iff.mp e).1] at hj'
            cases hj'
            exact R.pin j _ e hpj
          · have hj' : (s.r.set i (some ⟨.dct kvs, 0, p⟩))[j]? = some (some sl) := hj
            rw [List.getElem?_set_ne (Ne.symm hji)] at hj'
            exact R.pin j sl hj' hpj
      exact hp' _ (w.lck a (.frz od (.dK kv))) [] _ R' ⟨fix_keys upd_same (all0D t), rfl⟩ R'.nd (S.trans SL)
    · exact hp'.elim
    · rename_i d k p hn1 hn2 hn3 hn4 hn5 hn6 e
      split at hp'
      · rename_i ds e2
        obtain ⟨f, ow, _⟩ := at' e
        obtain ⟨vx, _⟩ := ow_leaf (d := d) ow hn3 hn6 (fun z hz => by rw [hz] at e2; cases e2)
        exact rit_vx vx R.ok e2 fun J hJ => fix_end hp' R S hJ
      · exact hp'.elim
    · exact hp'.elim
theorem ci_any {tg e : Expr} {m : M Op} (he : CE X wx e m) : CI X wx tg e (srcM m) := by
  refine ⟨fun s0 s st w fp Q R hp => ⟨_, pi_any pe_W, ?_⟩⟩
  refine he.go R (Stp.refl R.ok) hp fun o s1 v w1 f1 fp1 R1 r1 n1 S1 hp1 => ?_
  exact src_go R1 r1 n1 S1 hp1
end
end Mi

set_option Elab.async false
set_option linter.all false
set_option maxRecDepth 100000
set_option maxHeartbeats 4000000
namespace Mi
open PySem L2

/-- operands' data -/
def flats : List Op → M (List D)
  | [] => ret []
  | o :: os => bnd (flat o) fun d => bnd (flats os) fun ds => ret (d :: ds)
def ItVs (K : PySem.W.Frag) (w : Wd) : List D → List V → Prop
  | [], [] => True
  | d :: ds, v :: vs => ItV K w d v ∧ ItVs K w ds vs
  | _, _ => False
def rngD (lo : Int) (n : Nat) : List D := (List.range n).map fun i => .int (lo + (i : Nat))
def in62 (i : Int) : Bool := decide (-(2 ^ 62) ≤ i) && decide (i < 2 ^ 62)
def rng1 (ms : M (List Op)) : M Src := bnd ms fun os => bnd (flats os) fun ds => match ds with
  | [.int j] => if in62 j then ret (.fix (rngD 0 j.toNat)) else stuck
  | _ => stuck
def rng2 (ms : M (List Op)) : M Src := bnd ms fun os => bnd (flats os) fun ds => match ds with
  | [.int i, .int j] => if in62 i && in62 j then ret (.fix (rngD i (j - i).toNat)) else stuck
  | _ => stuck
def enumD : Nat → List D → List D
  | _, [] => []
  | n, d :: ds => .tup [.int (n : Nat), d] :: enumD (n + 1) ds
/-- enumerate's items -/
def enumOf : Op → M Src := fun o s => match o with
  | .val d k => match d with
    | .lst ds => match k with
      | 0 => .ok (.fix (enumD 0 ds)) s
      | k + 1 => if ds.all (fzOk k) then .ok (.fix (enumD 0 ds)) s else .no
    | .tup ds => .ok (.fix (enumD 0 ds)) s
    | .str z => .ok (.fix (enumD 0 (sgns z))) s
    | .scr ds => .ok (.fix (enumD 0 ds)) s
    | _ => .no
  | .slot i => match s.r[i]? with
    | some (some ⟨.lst ds, 0, _⟩) => .ok (.fix (enumD 0 ds)) s
    | some (some ⟨.lst _, 1, _⟩) => .ok (.bor i fun j d => .tup [.int (j : Nat), d]) s
    | some (some ⟨.tup ds, _, _⟩) => .ok (.fix (enumD 0 ds)) s
    | some (some ⟨.str z, _, _⟩) => .ok (.fix (enumD 0 (sgns z))) s
    | some (some ⟨.scr ds, _, _⟩) => .ok (.fix (enumD 0 ds)) s
    | _ => .no
def enumM (ms : M (List Op)) : M Src := bnd ms fun os => match os with
  | [o] => enumOf o
  | _ => stuck
section
variable {X : Cx} {wx : WX} {s0 st : St} {s s' : Sx} {w w0 w1 : Wd} {fp fp0 fp1 fo g : List Addr} {Q : It → Hp → Prop}
theorem flats_no : ∀ {os : List Op} {s s' : Sx} {x : Exn}, flats os s ≠ .ex x s'
  | [], s, s', x, e => by cases e
  | o :: os, s, s', x, e => by
    unfold flats bnd at e
    cases hf : flat o s with
    | ok d s1 =>
      rw [hf] at e
      dsimp only at e
      cases hg : flats os s1 with
      | ok ds s2 =>
        rw [hg] at e
        cases e
      | ex y s2 => exact flats_no hg
      | no =>
        rw [hg] at e
        cases e
    | ex y s1 => exact flat_no hf
    | no =>
      rw [hf] at e
      cases e
theorem flats_ok {K : PySem.W.Frag} : ∀ {os : List Op} {vs : List V} {fo : List Addr} {ds : List D} {s s' : Sx}, Rel K s0 s st w fp → All3 (OpR K st w) os vs fo → flats os s = .ok ds s' → s' = s ∧ ItVs K w ds vs
  | [], [], _, ds, s, s', R, h, e => by
    cases e
    exact ⟨rfl, trivial⟩
  | o :: os, v :: vs, _, ds, s, s', R, ⟨f, g, e1, h, t⟩, e => by
    unfold flats bnd at e
    cases hf : flat o s with
    | ok d s1 =>
      rw [hf] at e
      obtain ⟨rfl, q⟩ := flat_ok R h hf
      dsimp only at e
      cases hg : flats os s1 with
      | ok ds' s2 =>
        rw [hg] at e
        obtain ⟨rfl, q2⟩ := flats_ok R t hg
        cases e
        exact ⟨rfl, q, q2⟩
      | ex y s2 => exact (flats_no hg).elim
      | no =>
        rw [hg] at e
        cases e
    | ex y s1 => exact (flat_no hf).elim
    | no =>
      rw [hf] at e
      cases e
  | [], _ :: _, _, _, _, _, _, h, _ => h.elim
  | _ :: _, [], _, _, _, _, _, h, _ => h.elim
theorem flats_go {γ δ : Type} {RR : γ → δ → Wd → List Addr → Prop} {os : List Op} {vs : List V} {f : List D → M γ} {Q : δ → Hp → Prop} (hp : Post X wx RR s0 st w0 fp0 (bnd (flats os) f s) Q) (R : Rel X.K s0 s st w fp) (h : All3 (OpR X.K st w) os vs fo) :
    ∃ ds, ItVs X.K w ds vs ∧ Post X wx RR s0 st w0 fp0 (f ds s) Q := by
  unfold bnd at hp
  cases hl : flats os s with
  | ok d s1 =>
    rw [hl] at hp
    obtain ⟨rfl, q⟩ := flats_ok R h hl
    exact ⟨d, q, hp⟩
  | ex x s1 => exact (flats_no hl).elim
  | no =>
    rw [hl] at hp
    exact hp.elim
theorem fix_rng {K : PySem.W.Frag} {lo : Int} {n : Nat} : FixR K w (rngD lo n) (Itr lo n) := by
  intro w' ok L
  have W := walk_range (lo := lo) (n := n)
  have hl : (rngD lo n).length = n := by
    unfold rngD
    rw [List.length_map, List.length_range]
  refine ⟨fun i d hd => ?_, by rw [hl]; exact W.stops _ trivial⟩
  have hi : i < n := by
    have := (List.getElem?_eq_some_iff.mp hd).1
    rwa [hl] at this
  have ed : d = .int (lo + (i : Nat)) := by
    unfold rngD at hd
    rw [List.getElem?_map, List.getElem?_range hi] at hd
    cases hd
    rfl
  subst ed
  refine ⟨W.goes i _ hi trivial, fun x H' y => ?_⟩
  obtain ⟨rfl, rfl⟩ := W.yields i _ x H' hi trivial y
  exact yl_same ok rfl
theorem yl_tup {K : PySem.W.Frag} {ds : List D} {xs : List V} {T : Addr} (ok : w.Ok) (t : VxL (w.fz K) ds xs) (hT : w.H T = none) : Yl K w (.tup ds) (.ref T) (upd w.H T (.tup xs)) := by
  refine Res.tup (K := K) (w := w) (ds := ds) (Q := fun v H' => Yl K w (.tup ds) v H') (fun v w' fo S hN hn ow => ?_) ok t hT
  obtain ⟨vx, rfl⟩ := ow
  exact ⟨w', rfl, S, hN, vx⟩
theorem in62_ok {i : Int} (h : in62 i = true) : -(2 ^ 62) ≤ i ∧ i < 2 ^ 62 := by
  unfold in62 at h
  rw [Bool.and_eq_true] at h
  exact ⟨of_decide_eq_true h.1, of_decide_eq_true h.2⟩
theorem itvs1 {K : PySem.W.Frag} {d : D} {vs : List V} (h : ItVs K w [d] vs) : ∃ v, vs = [v] ∧ ItV K w d v := by
  match vs, h with
  | [v], h => exact ⟨v, rfl, h.1⟩
theorem itvs2 {K : PySem.W.Frag} {d e : D} {vs : List V} (h : ItVs K w [d, e] vs) : ∃ v u, vs = [v, u] ∧ ItV K w d v ∧ ItV K w e u := by
  match vs, h with
  | [v, u], h => exact ⟨v, u, rfl, h.1, h.2.1⟩
theorem ci_range1 {tg a : Expr} {ms : M (List Op)} {p pos : Pos} (hg : Gl X "range") (hm : X.mg "range" = none) (ha : CA X wx [a] ms) (hs : starEach [a] X.env = [(false, eval a X.env)] := by rfl) : CI X wx tg (.Call (.Name "range" p) [a] [] pos) (rng1 ms) := by
  refine ⟨fun s0 s st w fp Q R hp => ⟨_, pi_range1 hg hm pa_W hs, ?_⟩⟩
  have go : WA X [a] st w.H fun vs H1 => ∃ j : Int, vs = [.int j] ∧ -(2 ^ 62) ≤ j ∧ j < 2 ^ 62 ∧ Q (Itr 0 j.toNat) H1 := by
    refine ha.go R (Stp.refl R.ok) hp fun os s1 vs w1 f1 fp1 R1 r1 n1 S1 hp1 => ?_
    obtain ⟨ds, iv, hp2⟩ := flats_go hp1 R1 r1
    split at hp2
    · rename_i j
      split at hp2
      · rename_i hj
        obtain ⟨v, rfl, rfl⟩ := itvs1 iv
        obtain ⟨j1, j2⟩ := in62_ok hj
        exact ⟨j, rfl, j1, j2, fix_end hp2 R1 S1 fix_rng⟩
      · exact hp2.elim
    · exact hp2.elim
  exact go
theorem ci_range2 {tg a b : Expr} {ms : M (List Op)} {p pos : Pos} (hg : Gl X "range") (hm : X.mg "range" = none) (ha : CA X wx [a, b] ms) (hs : starEach [a, b] X.env = [(false, eval a X.env), (false, eval b X.env)] := by rfl) (hs2 : starEach [b] X.env = [(false, eval b X.env)] := by rfl) :
    CI X wx tg (.Call (.Name "range" p) [a, b] [] pos) (rng2 ms) := by
  refine ⟨fun s0 s st w fp Q R hp => ⟨_, pi_range2 hg hm pa_W hs hs2, ?_⟩⟩
  have go : WA X [a, b] st w.H fun vs H1 => ∃ i j : Int, vs = [.int i, .int j] ∧ (-(2 ^ 62) ≤ i ∧ i < 2 ^ 62 ∧ -(2 ^ 62) ≤ j ∧ j < 2 ^ 62) ∧ Q (Itr i (j - i).toNat) H1 := by
    refine ha.go R (Stp.refl R.ok) hp fun os s1 vs w1 f1 fp1 R1 r1 n1 S1 hp1 => ?_
    obtain ⟨ds, iv, hp2⟩ := flats_go hp1 R1 r1
    split at hp2
    · rename_i i j
      split at hp2
      · rename_i hj
        rw [Bool.and_eq_true] at hj
        obtain ⟨v, u, rfl, rfl, rfl⟩ := itvs2 iv
        obtain ⟨i1, i2⟩ := in62_ok hj.1
        obtain ⟨j1, j2⟩ := in62_ok hj.2
        exact ⟨i, j, rfl, ⟨i1, i2, j1, j2⟩, fix_end hp2 R1 S1 fix_rng⟩
      · exact hp2.elim
    · exact hp2.elim
  exact go
theorem enumD_len : ∀ {n : Nat} {ds : List D}, (enumD n ds).length = ds.length
  | _, [] => rfl
  | n, d :: ds => by
    unfold enumD
    rw [List.length_cons, List.length_cons, enumD_len]
theorem enumD_get : ∀ {n i : Nat} {ds : List D} {e : D}, (enumD n ds)[i]? = some e → ∃ d, ds[i]? = some d ∧ e = .tup [.int ((n + i : Nat) : Int), d]
  | n, i, [], e, h => by cases h
  | n, 0, d :: ds, e, h => by
    cases h
    exact ⟨d, rfl, rfl⟩
  | n, i + 1, d :: ds, e, h => by
    obtain ⟨d', h1, h2⟩ := enumD_get (n := n + 1) (i := i) (ds := ds) h
    exact ⟨d', h1, by rw [h2, show n + 1 + i = n + (i + 1) by omega]⟩
/-- enumerate of what stands frozen -/
theorem fix_enum {K : PySem.W.Frag} {n : Nat} {G : Hp → Prop} {px : Nat → V → Prop} {ds : List D} (hn : n = ds.length) (hG : ∀ w' : Wd, w'.Ok → (w.fz K).Le (w'.fz K) → G w'.H) (hx : ∀ i d x, ds[i]? = some d → px i x → Vx (w.fz K) d x) : FixR K w (enumD 0 ds) (Iten n G px) := by
  intro w' ok L
  have hg := hG w' ok L
  refine ⟨fun i e he => ?_, ⟨by rw [enumD_len, hn], hg⟩⟩
  obtain ⟨d, hd, rfl⟩ := enumD_get he
  refine ⟨⟨by rw [hn]; exact (List.getElem?_eq_some_iff.mp hd).1, hg⟩, fun x H' y => ?_⟩
  obtain ⟨T, xv, rfl, hT, rfl, hp⟩ := y
  exact yl_tup ok ⟨_, _, rfl, by rw [Nat.zero_add]; rfl, _, _, rfl, Vx.mono L _ _ (hx i d xv hd hp), rfl⟩ hT
theorem fix_enumL {K : PySem.W.Frag} {a : Addr} {ds : List D} {xs : List V} (hF : w.F a = some (.lst xs) ∨ SqL K w.F a xs) (t : VxL (w.fz K) ds xs) : FixR K w (enumD 0 ds) (Ite K a) := by
  intro w' ok L
  have hq : SqL K w'.H a xs := by
    rcases hF with hF | hF
    · exact .inl (.inl (ok _ _ (L.sq _ _ hF)))
    · exact SqL.up (fun o e => ok _ _ e) (L.sc _ _ hF)
  have t' := VxL.mono L _ _ t
  have W := walk_enum (K := K) (a := a) (xs := xs)
  refine ⟨fun i e he => ?_, by rw [enumD_len, ← t.length]; exact W.stops _ hq⟩
  obtain ⟨d, hd, rfl⟩ := enumD_get he
  obtain ⟨v, hv, vx⟩ := t'.get hd
  have hi : i < xs.length := (List.getElem?_eq_some_iff.mp hv).1
  refine ⟨W.goes i _ hi hq, fun x H' y => ?_⟩
  obtain ⟨T, p, q, rfl, hT, rfl, hp, hq'⟩ := W.yields i _ x H' hi hq y
  cases hp
  have hq2 : xs[i]? = some q := hq'
  rw [hv] at hq2
  cases hq2
  exact yl_tup ok ⟨_, _, rfl, by rw [Nat.zero_add]; rfl, _, _, rfl, vx, rfl⟩ hT
def rEn (K : PySem.W.Frag) (v : V) (H : Hp) (R : It → Hp → Prop) : Prop := (∃ a xs, v = .ref a ∧ SqL K H a xs ∧ R (Ite K a) H) ∨
  (∃ a xs, v = .ref a ∧ SqT K H a xs ∧ R (Iten xs.length (fun H => SqT K H a xs) fun i x => xs[i]? = some x) H) ∨
  ∃ z : Str, v = .str z ∧ R (Iten z.cps.size (fun _ => True) fun i x => ∃ c, z.cps[i]? = some c ∧ x = .str ⟨#[c]⟩) H
theorem ren_list {a : Addr} {v : V} {ds : List D} {xs : List V} (e : v = .ref a) (hF : w.F a = some (.lst xs) ∨ SqL X.K w.F a xs) (ok : w.Ok) (t : VxL (w.fz X.K) ds xs) (h : ∀ J, FixR X.K w (enumD 0 ds) J → Q J w.H) : rEn X.K v w.H Q := by
  refine .inl ⟨a, xs, e, ?_, h _ (fix_enumL hF t)⟩
  rcases hF with hF | hF
  · exact .inl (.inl (ok _ _ hF))
  · exact SqL.up (fun o e => ok _ _ e) hF
theorem ren_vx {d : D} {v : V} {ds : List D} (hv : Vx (w.fz X.K) d v) (ok : w.Ok) (e : (match d with
    | .lst ds => some ds
    | .tup ds => some ds
    | .str z => some (sgns z)
    | .scr ds => some ds
    | _ => none) = some ds) (h : ∀ J, FixR X.K w (enumD 0 ds) J → Q J w.H) : rEn X.K v w.H Q := by
  cases d with
  | tup es =>
    cases e
    obtain ⟨a, xs, e1, q, t⟩ := hv
    refine .inr (.inl ⟨a, xs, e1, SqT.of (ok a _ q), h _ (fix_enum t.length (fun w' ok' L => SqT.of (ok' a _ (L.sq _ _ q))) fun i d x hd hx => ?_)⟩)
    obtain ⟨v', h1, h2⟩ := t.get hd
    rw [h1] at hx
    cases hx
    exact h2
  | lst es =>
    cases e
    obtain ⟨a, xs, e1, q, t⟩ := hv
    exact ren_list e1 (.inl q) ok t h
  | str z =>
    cases e
    refine .inr (.inr ⟨z, hv, h _ (fix_enum (by unfold sgns; rw [List.length_map, Array.length_toList]) (fun _ _ _ => trivial) fun i d x hd hx => ?_)⟩)
    obtain ⟨c, h1, rfl⟩ := sgns_get hd
    obtain ⟨c', h2, rfl⟩ := hx
    rw [h1] at h2
    cases h2
    rfl
  | scr es =>
    cases e
    obtain ⟨a, xs, e1, q, t⟩ := hv
    exact ren_list e1 (.inr q) ok t h
  | _ => cases e
theorem en_go {o : Op} {v : V} (R : Rel X.K s0 s st w fp) (h : OpR X.K st w o v fo) (n : (fo ++ fp).Nodup) (S : Stp w0 fp0 w (fo ++ fp)) (hp : Post X wx (RI X.K st) s0 st w0 fp0 (enumOf o s) Q) : rEn X.K v w.H Q := by
  have hdis := nd_dis n
  cases o with
  | val d k =>
    cases d with
    | lst ds =>
      cases k with
      | zero => exact ren_vx h.1 R.ok rfl fun J hJ => fix_end hp R S hJ
      | succ k =>
        have hp' : Post X wx (RI X.K st) s0 st w0 fp0 (if ds.all (fzOk k) then .ok (.fix (enumD 0 ds)) s else .no) Q := hp
        split at hp'
        · rename_i hz
          have vx := frz_vx (K := X.K) R.ok fo (fun _ m => m) (show fzOk (k + 1) (.lst ds) = true from hz) h
          have R' := rel_frz R (f := fo) fun x hx hx' => hdis x hx' hx
          have S' : Stp w0 fp0 (w.frz fo) fp := S.trans (frz_stp R.ok (fun x m => List.mem_append_left _ m) fun x m => List.mem_append_right _ m)
          exact ren_vx (w := w.frz fo) vx R'.ok rfl fun J hJ => hp' J (w.frz fo) [] fp R' ⟨hJ, rfl⟩ R'.nd S'
        · exact hp'.elim
    | tup es =>
      obtain ⟨vx, rfl⟩ := ow_leaf h (by simp) (by simp) (by simp)
      exact ren_vx vx R.ok rfl fun J hJ => fix_end hp R S hJ
    | str z =>
      obtain ⟨vx, rfl⟩ := ow_leaf h (by simp) (by simp) (by simp)
      exact ren_vx vx R.ok rfl fun J hJ => fix_end hp R S hJ
    | scr es =>
      obtain ⟨vx, rfl⟩ := ow_leaf h (by simp) (by simp) (by simp)
      exact ren_vx vx R.ok rfl fun J hJ => fix_end hp R S hJ
    | _ => exact hp.elim
  | slot i =>
    obtain ⟨h1, h2⟩ := h
    subst h2
    obtain ⟨fe, fs, ef, q1, q2⟩ := R.parts
    have at' : ∀ {sl : Slot}, s.r[i]? = some (some sl) → ∃ f, Ow X.K w sl.k sl.d v f := fun {sl} e => by
      obtain ⟨b, f1, f, f2, hb, hf, hpp, hset⟩ := q1.at e
      rw [h1] at hb
      cases hb
      exact ⟨f, hpp⟩
    have hp' := hp
    unfold enumOf at hp'
    dsimp only at hp'
    split at hp'
    · rename_i ds p e
      obtain ⟨f, ow⟩ := at' e
      exact ren_vx ow.1 R.ok rfl fun J hJ => fix_end hp' R S hJ
    · rename_i ds p e
      obtain ⟨f, ow⟩ := at' e
      obtain ⟨a, xs, g', e1, h3, n1, e2, t⟩ := (show Ow X.K w 1 (.lst ds) v f from ow)
      subst e1
      refine .inl ⟨a, xs, rfl, .inl (.inl h3), hp' _ w [] fp R ⟨⟨a, h1, fun w' ys ok' hy => ?_⟩, rfl⟩ R.nd S⟩
      have hq : SqL X.K w'.H a ys := .inl (.inl hy)
      have W := walk_enum (K := X.K) (a := a) (xs := ys)
      refine ⟨fun j v' d' hj vx => ?_, W.stops _ hq⟩
      have hi : j < ys.length := (List.getElem?_eq_some_iff.mp hj).1
      refine ⟨W.goes j _ hi hq, fun x H' y => ?_⟩
      obtain ⟨T, p', q', rfl, hT, rfl, hp1, hp2⟩ := W.yields j _ x H' hi hq y
      cases hp1
      have hq2 : ys[j]? = some q' := hp2
      rw [hj] at hq2
      cases hq2
      exact yl_tup ok' ⟨_, _, rfl, rfl, _, _, rfl, vx, rfl⟩ hT
    · rename_i es k p e
      obtain ⟨f, ow⟩ := at' e
      obtain ⟨vx, _⟩ := ow_leaf ow (by simp) (by simp) (by simp)
      exact ren_vx vx R.ok rfl fun J hJ => fix_end hp' R S hJ
    · rename_i es k p e
      obtain ⟨f, ow⟩ := at' e
      obtain ⟨vx, _⟩ := ow_leaf ow (by simp) (by simp) (by simp)
      exact ren_vx vx R.ok rfl fun J hJ => fix_end hp' R S hJ
    · rename_i es k p e
      obtain ⟨f, ow⟩ := at' e
      obtain ⟨vx, _⟩ := ow_leaf ow (by simp) (by simp) (by simp)
      exact ren_vx vx R.ok rfl fun J hJ => fix_end hp' R S hJ
    · exact hp'.elim
theorem ci_enum {e : Expr} {ms : M (List Op)} {p pos tpos : Pos} {elts : List Expr} {kk : Nat} (hg : Gl X "enumerate") (hm : X.mg "enumerate" = none) (ha : CA X wx [e] ms) (hs : starEach [e] X.env = [(false, eval e X.env)] := by rfl) :
    CI X wx (.Tuple elts kk tpos) (.Call (.Name "enumerate" p) [e] [] pos) (enumM ms) := by
  refine ⟨fun s0 s st w fp Q R hp => ⟨_, pi_enumA hg hm pa_W hs, ?_⟩⟩
  have go : WA X [e] st w.H fun vs H1 => ∃ v, vs = [v] ∧ rEn X.K v H1 Q := by
    refine ha.go R (Stp.refl R.ok) hp fun os s1 vs w1 f1 fp1 R1 r1 n1 S1 hp1 => ?_
    split at hp1
    · rename_i o
      match vs, r1 with
      | [v], ⟨f, g', e1, h, t⟩ =>
        have eg : g' = [] := t
        subst eg
        rw [List.append_nil] at e1
        subst e1
        exact ⟨v, rfl, en_go R1 h n1 S1 hp1⟩
    · exact hp1.elim
  refine WA.mono go fun vs H1 h => ?_
  obtain ⟨v, rfl, h⟩ := h
  rcases h with ⟨a, xs, rfl, h⟩ | ⟨a, xs, rfl, h⟩ | ⟨z, rfl, h⟩
  · exact .inl ⟨a, xs, rfl, h⟩
  · exact .inr (.inl ⟨a, xs, rfl, h⟩)
  · exact .inr (.inr ⟨z, rfl, h⟩)
end
end Mi

set_option Elab.async false
set_option linter.all false
set_option maxRecDepth 100000
set_option maxHeartbeats 4000000
namespace Mi
open PySem L2

/-! ### comprehensions -/
def wipeR (r : List (Option Slot)) : List Nat → List (Option Slot)
  | [] => r
  | v :: vs => (wipeR r vs).set v none
def backR (r0 : List (Option Slot)) : List (Option Slot) → List Nat → List (Option Slot)
  | r, [] => r
  | r, v :: vs => backR r0 (r.set v (r0.getD v none)) vs
def okOwn (r : List (Option Slot)) (vs : List Nat) : Bool := vs.all fun v => match r[v]? with
  | some (some sl) => decide (sl.k = 0) && !sl.pin
  | _ => true
/-- tests behind if -/
structure CTs (X : Cx) (wx : WX) (ifs : List Expr) (m : M Bool) : Prop where
  run : ∀ s0 s st w fp Q, Rel X.K s0 s st w fp → Post X wx (RB st) s0 st w fp (m s) Q → ∃ t, PTs X ifs t ∧ t st w.H Q
def stepM (f : D → Nat → M Unit) (c : M Bool) (e : M Op) (d : D) : M (Option D) := bnd (f d 0) fun _ => bnd c fun b => if b then bnd e fun o => bnd (fzo o) fun x => ret (some x) else ret none
def noX {α : Type} : Rs α → Rs α
  | .ex _ _ => .no
  | r => r
def lcG (it : Nat → M D) (chk : M Unit) (step : D → M (Option D)) (vs : List Nat) (n : Nat) : Nat → List D → M (List D)
  | 0, acc => bnd chk fun _ => ret acc
  | r + 1, acc => bnd (it (n - (r + 1))) fun d s => match step d s with
    | .ok x s1 => if acc.length < cap then lcG it chk step vs n r (acc ++ x.toList) { s1 with r := wipeR s1.r vs } else .no
    | _ => .no
def lcM (src : M Src) (f : D → Nat → M Unit) (c : M Bool) (e : M Op) (vs : List Nat) : M Op := bnd src fun z => fun s =>
  if okOwn s.r vs && (match z with
    | .fix _ => true
    | .bor i _ => decide (i ∉ vs)) then
    match (match z with
      | .fix ds => lcG (fun j => opt ds[j]?) (ret ()) (stepM f c e) vs ds.length ds.length [] { s with r := wipeR s.r vs }
      | .bor i g => lcG (fun j => bnd (lstAt false i (lenAt s i)) fun ds => bnd (opt ds[j]?) fun d => ret (g j d)) (bnd (lstAt false i (lenAt s i)) fun _ => ret ()) (stepM f c e) vs (lenAt s i) (lenAt s i) [] { s with r := wipeR s.r vs }) with
    | .ok acc s' => .ok (.val (.lst acc) 1) { s' with r := backR s.r s'.r vs }
    | _ => .no
  else .no

section
variable {X : Cx} {wx : WX} {s0 st : St} {s s' : Sx} {w w0 w1 : Wd} {fp fp0 fp1 fo g : List Addr}
theorem cts_nil : CTs X wx [] (ret true) := ⟨fun s0 s st w fp Q R hp => ⟨_, pts_nil, hp true w [] fp R ⟨rfl, rfl⟩ R.nd (Stp.refl R.ok)⟩⟩
theorem cts_one {c : Expr} {m : M Bool} (h : CT X wx c m) : CTs X wx [c] m := ⟨fun s0 s st w fp Q R hp => let ⟨t, ht, q⟩ := h.run s0 s st w fp Q R hp; ⟨t, pts_one ht, q⟩⟩
theorem wipe_len {σ : St} : ∀ {vs : List Nat}, (wipe σ vs).length = σ.length := fun {vs} => wipe_length σ vs
theorem wipe_out {σ : St} {j : Nat} : ∀ {vs : List Nat}, j ∉ vs → (wipe σ vs)[j]? = σ[j]?
  | [], _ => rfl
  | v :: vs, h => by
    show ((wipe σ vs).set v none)[j]? = σ[j]?
    rw [List.getElem?_set_ne fun e => h (by rw [e]; exact List.mem_cons_self ..)]
    exact wipe_out fun m => h (List.mem_cons_of_mem _ m)
theorem wipe_in {σ : St} {j : Nat} : ∀ {vs : List Nat}, j ∈ vs → (wipe σ vs)[j]? = if j < σ.length then some none else none
  | v :: vs, h => by
    show ((wipe σ vs).set v none)[j]? = _
    by_cases e : v = j
    · subst e
      rw [List.getElem?_set]
      simp only [if_true, wipe_len]
    · rw [List.getElem?_set_ne e]
      exact wipe_in ((List.mem_cons.mp h).resolve_left fun q => e q.symm)
theorem wipe_same {ts vs : List Nat} {σ σ' : St} (h : Same ts σ σ') (hs : ∀ j ∈ ts, j ∈ vs) : wipe σ' vs = wipe σ vs := by
  apply List.ext_getElem?
  intro j
  by_cases hj : j ∈ vs
  · rw [wipe_in hj, wipe_in hj, h.1]
  · rw [wipe_out hj, wipe_out hj]
    exact h.2 j fun m => hj (hs j m)
theorem wipe_wipe {σ : St} {vs : List Nat} : wipe (wipe σ vs) vs = wipe σ vs := by
  apply List.ext_getElem?
  intro j
  by_cases hj : j ∈ vs
  · rw [wipe_in hj, wipe_in hj, wipe_len]
  · rw [wipe_out hj]
theorem all3_set {K : PySem.W.Frag} {r : List (Option Slot)} {st : St} {fe : List Addr} (h : All3 (SlR K w) r st fe) (v : Nat) : ∃ fe', All3 (SlR K w) (r.set v none) (st.set v none) fe' ∧ (∀ x ∈ fe', x ∈ fe) ∧ (fe.Nodup → fe'.Nodup) := by
  by_cases hv : v < r.length
  · obtain ⟨b, f1, f, f2, hb, hf, hp, hset⟩ := h.at (i := v) (a := r[v]) (List.getElem?_eq_getElem hv)
    refine ⟨_, hset none none [] rfl, fun x m => ?_, fun nd => ?_⟩
    · rw [hf]
      simp only [List.append_nil, List.mem_append] at m ⊢
      grind
    · rw [hf] at nd
      simp only [List.append_nil, List.nodup_append, List.mem_append] at nd ⊢
      grind
  · have hl := h.len
    rw [List.set_eq_of_length_le (by omega), List.set_eq_of_length_le (by omega)]
    exact ⟨fe, h, fun x m => m, fun n => n⟩
theorem all3_wipe {K : PySem.W.Frag} {r : List (Option Slot)} {st : St} : ∀ {vs : List Nat} {fe : List Addr}, All3 (SlR K w) r st fe → ∃ fe', All3 (SlR K w) (wipeR r vs) (wipe st vs) fe' ∧ (∀ x ∈ fe', x ∈ fe) ∧ (fe.Nodup → fe'.Nodup)
  | [], fe, h => ⟨fe, h, fun x m => m, fun n => n⟩
  | v :: vs, fe, h => by
    obtain ⟨f1, h1, h2, h3⟩ := all3_wipe (vs := vs) h
    obtain ⟨f2, k1, k2, k3⟩ := all3_set h1 v
    exact ⟨f2, k1, fun x m => h2 x (k2 x m), fun n => k3 (h3 n)⟩
theorem wipeR_some {r : List (Option Slot)} {j : Nat} {sl : Slot} : ∀ {vs : List Nat}, (wipeR r vs)[j]? = some (some sl) → r[j]? = some (some sl) ∧ j ∉ vs
  | [], h => ⟨h, by simp⟩
  | v :: vs, h => by
    have h' : ((wipeR r vs).set v none)[j]? = some (some sl) := h
    by_cases e : v = j
    · subst e
      rw [List.getElem?_set] at h'
      split at h' <;> simp_all
    · rw [List.getElem?_set_ne e] at h'
      obtain ⟨h1, h2⟩ := wipeR_some h'
      exact ⟨h1, fun m => (List.mem_cons.mp m).elim (fun q => e q.symm) h2⟩
theorem Rel.wipe {K : PySem.W.Frag} {vs : List Nat} (R : Rel K s0 s st w fp) : ∃ fp', Rel K s0 { s with r := wipeR s.r vs } (L2.wipe st vs) w fp' ∧ ∀ x ∈ fp', x ∈ fp := by
  obtain ⟨fe, fs, ef, q1, q2⟩ := R.parts
  obtain ⟨fe', h1, h2, h3⟩ := all3_wipe (vs := vs) q1
  have nd := R.nd
  rw [ef] at nd
  obtain ⟨n1, n2, n3⟩ := List.nodup_append.mp nd
  refine ⟨fe' ++ fs, ⟨R.ok, R.N, ⟨fe', fs, rfl, h1, q2⟩, List.nodup_append.mpr ⟨h3 n1, n2, fun x hx y hy => n3 x (h2 x hx) y hy⟩, fun j sl hj hp => ?_⟩, fun x m => ?_⟩
  · obtain ⟨e1, e2⟩ := wipeR_some hj
    obtain ⟨v, e3, e4⟩ := R.pin j sl e1 hp
    exact ⟨v, (wipe_out e2).trans e3, e4⟩
  · rw [ef]
    rcases List.mem_append.mp m with m | m
    · exact List.mem_append_left _ (h2 x m)
    · exact List.mem_append_right _ m
theorem all3_back {K : PySem.W.Frag} {r0 : List (Option Slot)} {σ : St} : ∀ {vs : List Nat} {r : List (Option Slot)} {fe : List Addr}, vs.Nodup → (∀ v ∈ vs, v < σ.length → SlR K w (r0.getD v none) (σ.getD v none) []) → All3 (SlR K w) r (wipe σ vs) fe → All3 (SlR K w) (backR r0 r vs) σ fe
  | [], r, fe, _, _, h => h
  | v :: vs, r, fe, nd, hk, h => by
    have h' : All3 (SlR K w) r ((wipe σ vs).set v none) fe := h
    have nv : v ∉ vs := (List.nodup_cons.mp nd).1
    refine all3_back (vs := vs) (r := r.set v (r0.getD v none)) (List.nodup_cons.mp nd).2 (fun u hu => hk u (List.mem_cons_of_mem _ hu)) ?_
    by_cases hv : v < σ.length
    · have hl := h'.len
      rw [List.length_set, wipe_len] at hl
      obtain ⟨b, f1, f, f2, hb, hf, hp, hset⟩ := h'.at (i := v) (a := r[v]'(by omega)) (List.getElem?_eq_getElem (by omega))
      have eb : b = none := by
        rw [List.getElem?_set_self (by rw [wipe_len]; exact hv)] at hb
        cases hb
        rfl
      subst eb
      have ef : f = [] := by
        cases hr : r[v]'(by omega) with
        | none =>
          rw [hr] at hp
          exact hp
        | some sl =>
          rw [hr] at hp
          exact False.elim hp
      subst ef
      have q := hset (r0.getD v none) (σ.getD v none) [] (hk v (List.mem_cons_self ..) hv)
      rw [List.set_set] at q
      have est : (wipe σ vs).set v (σ.getD v none) = wipe σ vs := by
        apply List.ext_getElem?
        intro j
        by_cases hj : v = j
        · subst hj
          rw [List.getElem?_set_self (by rw [wipe_len]; exact hv), wipe_out nv, List.getD_eq_getElem?_getD, List.getElem?_eq_getElem hv]
          rfl
        · rw [List.getElem?_set_ne hj]
      rw [est, ← hf] at q
      exact q
    · have hl := h'.len
      rw [List.length_set, wipe_len] at hl
      rw [List.set_eq_of_length_le (by rw [wipe_len]; omega)] at h'
      rw [List.set_eq_of_length_le (by omega)]
      exact h'
theorem backR_out {r0 : List (Option Slot)} {j : Nat} : ∀ {vs : List Nat} {r : List (Option Slot)}, j ∉ vs → (backR r0 r vs)[j]? = r[j]?
  | [], r, _ => rfl
  | v :: vs, r, h => by
    show (backR r0 (r.set v (r0.getD v none)) vs)[j]? = r[j]?
    rw [backR_out fun m => h (List.mem_cons_of_mem _ m), List.getElem?_set_ne fun e => h (by rw [e]; exact List.mem_cons_self ..)]
theorem backR_in {r0 : List (Option Slot)} {j : Nat} {sl : Slot} : ∀ {vs : List Nat} {r : List (Option Slot)}, vs.Nodup → j ∈ vs → (backR r0 r vs)[j]? = some (some sl) → r0.getD j none = some sl
  | v :: vs, r, nd, h, e => by
    have e' : (backR r0 (r.set v (r0.getD v none)) vs)[j]? = some (some sl) := e
    rcases List.mem_cons.mp h with q | q
    · subst q
      rw [backR_out (List.nodup_cons.mp nd).1, List.getElem?_set] at e'
      split at e'
      · split at e'
        · exact Option.some.inj e'
        · cases e'
      · rename_i hn
        exact absurd rfl hn
    · exact backR_in (List.nodup_cons.mp nd).2 q e'
/-- a write at p -/
def Wd.put (w : Wd) (p : Addr) (o : HO) : Wd := { w with H := upd w.H p o }
theorem put_ok {p : Addr} {o : HO} (ok : w.Ok) (hn : w.F p = none) : (w.put p o).Ok := fun a x e => by
  show upd w.H p o a = some x
  rw [upd_ne (ne_of_none e hn)]
  exact ok a x e
theorem put_stp {p : Addr} {o : HO} {fp : List Addr} (ok : w.Ok) (hp : p ∈ fp) (hn : w.F p = none) : Stp w fp (w.put p o) fp :=
  ⟨fun _ _ e => e, fun a x e n => (upd_ne (fun z => n (by rw [z]; exact hp))).trans e, fun _ _ _ _ => rfl, fun _ m => .inl m, Nat.le_refl _, fun _ _ => rfl, put_ok ok hn⟩
theorem rel_put {K : PySem.W.Frag} {p : Addr} {o : HO} (R : Rel K s0 s st w fp) (hn : w.F p = none) (hp : p ∉ fp) : Rel K s0 s st (w.put p o) fp :=
  R.keep (w' := w.put p o) (show (w.fz K).Le (w.fz K) from ⟨fun _ _ h => h, fun _ _ h => h, fun _ _ h => h, rfl, Nat.le_refl _, fun _ _ => rfl⟩) (put_ok R.ok hn) rfl fun x hx y e n => ⟨(upd_ne (fun z => hp (by rw [← z]; exact hx))).trans e, n⟩
theorem all3_0 {K : PySem.W.Frag} : ∀ {ds : List D} {xs : List V}, VxL (w.fz K) ds xs → All3 (Ow K w 0) ds xs []
  | [], xs, t => by
    rw [show xs = [] from t]
    rfl
  | d :: ds, xs, t => by
    obtain ⟨v, r, e, h1, h2⟩ := t
    rw [e]
    exact ⟨[], [], rfl, ⟨h1, rfl⟩, all3_0 h2⟩
theorem ow1 {K : PySem.W.Frag} {p : Addr} {ds : List D} {xs : List V} (h : w.H p = some (.lst xs)) (n : w.F p = none) (t : VxL (w.fz K) ds xs) : Ow K w 1 (.lst ds) (.ref p) [p] := ⟨p, xs, [], rfl, h, n, rfl, all3_0 t⟩
theorem ow1_inv {K : PySem.W.Frag} {p : Addr} {ds : List D} {f : List Addr} (h : Ow K w 1 (.lst ds) (.ref p) f) : ∃ xs, w.H p = some (.lst xs) ∧ w.F p = none ∧ f = [p] ∧ VxL (w.fz K) ds xs := by
  obtain ⟨p', xs, g', e1, h1, n1, e2, t⟩ := h
  cases e1
  have hg : g' = [] := by
    have : ∀ {ds : List D} {xs : List V} {g : List Addr}, All3 (Ow K w 0) ds xs g → g = [] := by
      intro ds
      induction ds with
      | nil =>
        intro xs g t
        cases xs with
        | nil => exact t
        | cons _ _ => exact t.elim
      | cons d ds ih =>
        intro xs g t
        cases xs with
        | nil => exact t.elim
        | cons x xs =>
          obtain ⟨f, g', e, h, t⟩ := t
          rw [e, h.2, ih t]
          rfl
    exact this t
  subst hg
  exact ⟨xs, h1, n1, e2, all0 t⟩
theorem stp_out {p : Addr} (S : Stp w fp w1 fp1) (hp : p ∉ fp) (hh : w.H p ≠ none) : p ∉ fp1 := fun m => (S.nw p m).elim hp hh

/-! ### one reading for all contexts of the block -/
section
variable (X : Cx) (scope : Scope)
def gU (tg : Expr) : TG := fun v st H Q => ∀ (s : Shared) (H0 : Hp) (C : Addr) (cl : List (Str × Addr)) (fp : List Addr), WG (X.blk s H0 scope (compEnvC scope cl C X.env) fp) tg v st H Q
def tU (ifs : List Expr) : TT := fun st H Q => ∀ (s : Shared) (H0 : Hp) (C : Addr) (cl : List (Str × Addr)) (fp : List Addr), ∃ t, PTs (X.blk s H0 scope (compEnvC scope cl C X.env) fp) ifs t ∧ t st H Q
def eU (e : Expr) : TE := fun st H Q => ∀ (s : Shared) (H0 : Hp) (C : Addr) (cl : List (Str × Addr)) (fp : List Addr), W (X.blk s H0 scope (compEnvC scope cl C X.env) fp) e st H Q
end
variable {scope : Scope}
theorem pg_U {tg : Expr} (s : Shared) (H0 : Hp) (C : Addr) (cl : List (Str × Addr)) (fp : List Addr) : PG (X.blk s H0 scope (compEnvC scope cl C X.env) fp) tg (gU X scope tg) := ⟨fun pins s' st H v u Q I r h => pg_W.run pins s' st H v u Q I r (h s H0 C cl fp)⟩
theorem pt_U {ifs : List Expr} (s : Shared) (H0 : Hp) (C : Addr) (cl : List (Str × Addr)) (fp : List Addr) : PTs (X.blk s H0 scope (compEnvC scope cl C X.env) fp) ifs (tU X scope ifs) := ⟨fun pins s' st H Q I h => let ⟨t, ht, q⟩ := h s H0 C cl fp; ht.run pins s' st H Q I q⟩
theorem pe_U {e : Expr} (s : Shared) (H0 : Hp) (C : Addr) (cl : List (Str × Addr)) (fp : List Addr) : PE (X.blk s H0 scope (compEnvC scope cl C X.env) fp) e (eU X scope e) := ⟨fun pins s' st H Q I h => pe_W.run pins s' st H Q I (h s H0 C cl fp)⟩
abbrev wxF : WX := fun _ _ _ _ => False
/-- what gives the items -/
def ProvR (K : PySem.W.Frag) (s0 st : St) (vs : List Nat) (w1 : Wd) (J : It) (n : Nat) (it : Nat → M D) (chk : M Unit) : Prop := ∀ s2 w2 fp2, Rel K s0 s2 (wipe st vs) w2 fp2 → (w1.fz K).Le (w2.fz K) →
  (∀ j d s', it j s2 = .ok d s' → s' = s2 ∧ J.go j w2.H ∧ ∀ x H', J.yld j w2.H x H' → Yl K w2 d x H') ∧ ∀ u s', chk s2 = .ok u s' → s' = s2 ∧ J.stop n w2.H
theorem lc_turns {elt tg : Expr} {ifs : List Expr} {vs ts : List Nat} {f : D → Nat → M Unit} {c : M Bool} {e : M Op} {J : It} {it : Nat → M D} {chk : M Unit} {n : Nat} {Dd : Addr} {Qd : Hp → Prop} {Fin : List D → Sx → Prop}
    (hg : ∀ (s : Shared) (H : Hp) (C : Addr) (cl : List (Str × Addr)) (fp : List Addr), CG (X.blk s H scope (compEnvC scope cl C X.env) fp) tg f ts) (ht : ∀ (s : Shared) (H : Hp) (C : Addr) (cl : List (Str × Addr)) (fp : List Addr), CTs (X.blk s H scope (compEnvC scope cl C X.env) fp) wxF ifs c)
    (he : ∀ (s : Shared) (H : Hp) (C : Addr) (cl : List (Str × Addr)) (fp : List Addr), CE (X.blk s H scope (compEnvC scope cl C X.env) fp) wxF elt e) (hts : ∀ j ∈ ts, j ∈ vs)
    (pv : ProvR X.K s0 st vs w J n it chk) (R : Rel X.K s0 s (wipe st vs) w1 fp1) (S : Stp w fp w1 (Dd :: fp1)) (hD : Dd ∉ fp1) (ow : Ow X.K w1 1 (.lst []) (.ref Dd) [Dd])
    (hf : ∃ acc' s', lcG it chk (stepM f c e) vs n n [] s = .ok acc' s' ∧ Fin acc' s')
    (hq : ∀ s2 w2 fp2 acc, Rel X.K s0 s2 (wipe st vs) w2 fp2 → Stp w fp w2 (Dd :: fp2) → Dd ∉ fp2 → Ow X.K w2 1 (.lst acc) (.ref Dd) [Dd] → Fin acc s2 → Qd w2.H) :
    ∃ W : Nat → Nat → Hp → Prop, (∃ m, W 0 m w1.H) ∧ ∀ i m H, W i m H →
      (J.stop i H ∧ Qd H) ∨ (J.go i H ∧ ∃ Nx : Hp → Prop, (∀ H', Nx H' → ∃ m', m' < m ∧ W (i + 1) m' H') ∧ ∀ x H', J.yld i H x H' → gU X scope tg x (wipe st vs) H' fun σ2 H2 => wipe σ2 vs = wipe st vs ∧ tU X scope ifs σ2 H2 fun b H3 =>
        if b = true then eU X scope elt σ2 H3 fun y H4 => ∃ acc, H4 Dd = some (.lst acc) ∧ acc.length < sizeLine ∧ Nx (upd H4 Dd (.lst (acc ++ [y]))) else Nx H3) := by
  refine ⟨fun i m H => i + m = n ∧ ∃ s2 w2 fp2 acc, w2.H = H ∧ Rel X.K s0 s2 (wipe st vs) w2 fp2 ∧ Stp w fp w2 (Dd :: fp2) ∧ Dd ∉ fp2 ∧ Ow X.K w2 1 (.lst acc) (.ref Dd) [Dd] ∧ ∃ acc' s', lcG it chk (stepM f c e) vs n m acc s2 = .ok acc' s' ∧ Fin acc' s',
    ⟨n, by omega, s, w1, fp1, [], rfl, R, S, hD, ow, hf⟩, ?_⟩
  rintro i m H ⟨hm, s2, w2, fp2, acc, rfl, R2, S2, hD2, ow2, acc', s', hl, hfin⟩
  obtain ⟨pv1, pv2⟩ := pv s2 w2 fp2 R2 S2.fz
  cases m with
  | zero =>
    unfold lcG bnd at hl
    cases hc : chk s2 with
    | ok u s3 =>
      rw [hc] at hl
      cases hl
      obtain ⟨rfl, hst⟩ := pv2 u _ hc
      rw [show i = n by omega]
      exact .inl ⟨hst, hq _ w2 fp2 acc R2 S2 hD2 ow2 hfin⟩
    | ex x s3 =>
      rw [hc] at hl
      cases hl
    | no =>
      rw [hc] at hl
      cases hl
  | succ r =>
    unfold lcG bnd at hl
    rw [show n - (r + 1) = i by omega] at hl
    cases hi : it i s2 with
    | ex x s3 =>
      rw [hi] at hl
      cases hl
    | no =>
      rw [hi] at hl
      cases hl
    | ok d s3 =>
      rw [hi] at hl
      obtain ⟨rfl, hgo, hyl⟩ := pv1 i d s3 hi
      dsimp only at hl
      refine .inr ⟨hgo, fun H' => ∃ s4 w4 fp4 acc4, w4.H = H' ∧ Rel X.K s0 s4 (wipe st vs) w4 fp4 ∧ Stp w fp w4 (Dd :: fp4) ∧ Dd ∉ fp4 ∧ Ow X.K w4 1 (.lst acc4) (.ref Dd) [Dd] ∧ ∃ acc' s', lcG it chk (stepM f c e) vs n r acc4 s4 = .ok acc' s' ∧ Fin acc' s', fun H' h => ⟨r, by omega, by omega, h⟩, fun x H' y => ?_⟩
      obtain ⟨w3, rfl, Sy, hN, vx⟩ := hyl x H' y
      have R3 := R2.alloc Sy hN
      have Sy' : Stp w2 fp2 w3 fp2 := Sy.beside (g := fp2) |>.more (by simp) |>.sub (by simp)
      have ow3 : Ow X.K w3 1 (.lst acc) (.ref Dd) [Dd] := Ow.stp ow2 Sy (by simp)
      have hDd : w2.H Dd ≠ none := (ow2.dom Dd (List.mem_singleton_self _)).1
      cases hst : stepM f c e d s3 with
      | ex y1 s4 =>
        rw [hst] at hl
        cases hl
      | no =>
        rw [hst] at hl
        cases hl
      | ok xo s4 =>
        rw [hst] at hl
        dsimp only at hl
        by_cases hcap : acc.length < cap
        · rw [if_pos hcap] at hl
          intro sB HB CB clB fpB
          refine (hg sB HB CB clB fpB).run s0 s3 (wipe st vs) w3 fp2 x d 0 [] _ R3 ⟨vx, rfl⟩ R3.nd ?_
          unfold stepM bnd at hst
          cases hfd : f d 0 s3 with
          | ex y1 s5 => exact ((hg sB HB CB clB fpB).noex _ _ _ _ _ hfd).elim
          | no =>
            rw [hfd] at hst
            cases hst
          | ok u s5 =>
            rw [hfd] at hst
            dsimp only at hst
            intro st5 w5 fp5 sm R5 S5
            have hw : wipe st5 vs = wipe st vs := (wipe_same sm hts).trans wipe_wipe
            refine ⟨hw, ?_⟩
            have S25 : Stp w2 fp2 w5 fp5 := Sy'.trans S5
            have ow5 : Ow X.K w5 1 (.lst acc) (.ref Dd) [Dd] := Ow.stp ow2 S25 fun z hz => by rw [List.mem_singleton.mp hz]; exact hD2
            intro sB2 HB2 CB2 clB2 fpB2
            refine (ht sB2 HB2 CB2 clB2 fpB2).run s0 s5 st5 w5 fp5 _ R5 ?_
            cases hcs : c s5 with
            | ex y1 s6 =>
              rw [hcs] at hst
              cases hst
            | no =>
              rw [hcs] at hst
              cases hst
            | ok b s6 =>
              rw [hcs] at hst
              dsimp only at hst
              intro b' w6 fo6 fp6 R6 r6 n6 S6
              obtain ⟨rfl, rfl⟩ := r6
              have S26 : Stp w2 fp2 w6 fp6 := S25.trans S6
              have hD6 : Dd ∉ fp6 := stp_out S26 hD2 hDd
              have ow6 : Ow X.K w6 1 (.lst acc) (.ref Dd) [Dd] := Ow.stp ow2 S26 fun z hz => by rw [List.mem_singleton.mp hz]; exact hD2
              cases b with
              | false =>
                rw [if_neg Bool.false_ne_true] at hst ⊢
                cases hst
                obtain ⟨fp7, R7, sub7⟩ := R6.wipe (vs := vs)
                rw [hw] at R7
                refine ⟨_, w6, fp7, acc, rfl, R7, (S2.trans (S26.beside (g := [Dd]))).sub fun z hz => ?_, fun z => hD6 (sub7 _ z), ow6, acc', s', by simpa using hl, hfin⟩
                rcases List.mem_cons.mp hz with rfl | hz
                · exact List.mem_cons_self ..
                · exact List.mem_cons_of_mem _ (sub7 z hz)
              | true =>
                rw [if_pos rfl] at hst ⊢
                intro sB3 HB3 CB3 clB3 fpB3
                refine (he sB3 HB3 CB3 clB3 fpB3).run s0 s6 st5 w6 fp6 _ R6 ?_
                cases hes : e s6 with
                | ex y1 s7 =>
                  rw [hes] at hst
                  cases hst
                | no =>
                  rw [hes] at hst
                  cases hst
                | ok o s7 =>
                  rw [hes] at hst
                  dsimp only at hst
                  intro v w7 fo7 fp7 R7 r7 n7 S7
                  unfold fzo bnd at hst
                  cases hos : own o s7 with
                  | ex y1 s8 => exact (own_no hos).elim
                  | no =>
                    rw [hos] at hst
                    cases hst
                  | ok pk s8 =>
                    obtain ⟨d8, k8⟩ := pk
                    rw [hos] at hst
                    dsimp only at hst
                    by_cases hz : fzOk k8 d8 = true
                    · rw [if_pos hz] at hst
                      cases hst
                      obtain ⟨w8, fo8, fp8, R8, ow8, nd8, S8, sb1, sb2, eH, eN⟩ := own_ok R7 r7 n7 hos
                      have vx8 := frz_vx (K := X.K) R8.ok fo8 (fun _ m => m) hz ow8
                      have R9 := rel_frz R8 (f := fo8) fun z hz hz' => nd_dis nd8 z hz' hz
                      have S9 : Stp w8 (fo8 ++ fp8) (w8.frz fo8) fp8 := frz_stp R8.ok (fun x m => List.mem_append_left _ m) fun x m => List.mem_append_right _ m
                      have S29 : Stp w2 fp2 (w8.frz fo8) fp8 := ((S26.trans S7).trans S8).trans S9
                      have hD9 : Dd ∉ fp8 := stp_out S29 hD2 hDd
                      have ow9 : Ow X.K (w8.frz fo8) 1 (.lst acc) (.ref Dd) [Dd] := Ow.stp ow2 S29 fun z hz => by rw [List.mem_singleton.mp hz]; exact hD2
                      obtain ⟨xs, h1, h2, _, h4⟩ := ow1_inv ow9
                      obtain ⟨fp10, R10, sub10⟩ := (rel_put (o := .lst (xs ++ [v])) R9 h2 hD9).wipe (vs := vs)
                      rw [hw] at R10
                      have eH' : (w8.frz fo8).H = w7.H := eH
                      rw [eH'] at h1
                      refine ⟨xs, h1, by rw [h4.length]; exact cap_lt hcap, _, (w8.frz fo8).put Dd (.lst (xs ++ [v])), fp10, acc ++ [d8], ?_, R10, ((S2.trans (S29.beside (g := [Dd]))).trans (put_stp S29.ok (List.mem_cons_self ..) h2)).sub fun z hz => ?_, fun z => hD9 (sub10 _ z), ow1 upd_same h2 (VxL.append h4 ⟨v, [], rfl, vx8, rfl⟩), acc', s', hl, hfin⟩
                      · show upd (w8.frz fo8).H Dd _ = upd w7.H Dd _
                        rw [eH']
                      · rcases List.mem_cons.mp hz with rfl | hz
                        · exact List.mem_cons_self ..
                        · exact List.mem_cons_of_mem _ (sub10 z hz)
                    · rw [if_neg hz] at hst
                      cases hst
        · rw [if_neg hcap] at hl
          cases hl
theorem okOwn_at {r : List (Option Slot)} {vs : List Nat} {v : Nat} {sl : Slot} (h : okOwn r vs = true) (hv : v ∈ vs) (e : r[v]? = some (some sl)) : sl.k = 0 ∧ sl.pin = false := by
  have q := List.all_eq_true.mp h v hv
  rw [e] at q
  simpa using q
theorem lc_read {elt tg iter : Expr} {ifs : List Expr} {vs ts : List Nat} {src : M Src} {f : D → Nat → M Unit} {c : M Bool} {e : M Op} {Q : VK} (hi : CI X wx tg iter src)
    (hg : ∀ (s : Shared) (H : Hp) (C : Addr) (cl : List (Str × Addr)) (fp : List Addr), CG (X.blk s H scope (compEnvC scope cl C X.env) fp) tg f ts) (ht : ∀ (s : Shared) (H : Hp) (C : Addr) (cl : List (Str × Addr)) (fp : List Addr), CTs (X.blk s H scope (compEnvC scope cl C X.env) fp) wxF ifs c)
    (he : ∀ (s : Shared) (H : Hp) (C : Addr) (cl : List (Str × Addr)) (fp : List Addr), CE (X.blk s H scope (compEnvC scope cl C X.env) fp) wxF elt e) (hts : ∀ j ∈ ts, j ∈ vs) (hnd : vs.Nodup) (R : Rel X.K s0 s st w fp)
    (hp : Post X wx (RE X.K st) s0 st w fp (lcM src f c e vs s) Q) : tLc (WI X tg iter) (gU X scope tg) (tU X scope ifs) (eU X scope elt) vs st w.H Q := by
  refine hi.go R (Stp.refl R.ok) hp fun z s1 J w1 f1 fp1 R1 r1 n1 S1 hp1 => ?_
  obtain ⟨hz, rfl⟩ := r1
  intro Dd hDd
  -- what is wanted at the end
  have fin : okOwn s1.r vs = true → ∀ s2 w2 fp2 acc, Rel X.K s0 s2 (wipe st vs) w2 fp2 → Stp w1 fp1 w2 (Dd :: fp2) → Dd ∉ fp2 → Ow X.K w2 1 (.lst acc) (.ref Dd) [Dd] → Post X wx (RE X.K st) s0 st w fp (.ok (.val (.lst acc) 1) { s2 with r := backR s1.r s2.r vs }) Q → Q (.ref Dd) w2.H := by
    intro ho s2 w2 fp2 acc R2 S2 hD2 ow2 hp2
    obtain ⟨fe1, fs1, ef1, a1, _⟩ := R1.parts
    obtain ⟨fe, fs, ef, q1, q2⟩ := R2.parts
    have R3 : Rel X.K s0 { s2 with r := backR s1.r s2.r vs } st w2 fp2 := by
      refine ⟨R2.ok, R2.N, ⟨fe, fs, ef, all3_back hnd (fun v hv hlt => ?_) q1, q2⟩, R2.nd, fun j sl hj hpj => ?_⟩
      · have hl := a1.len
        have hv1 : v < s1.r.length := by omega
        rw [List.getD_eq_getElem?_getD, List.getD_eq_getElem?_getD, List.getElem?_eq_getElem hv1, List.getElem?_eq_getElem hlt]
        cases hr : s1.r[v] with
        | none => rfl
        | some sl =>
          have e1 : s1.r[v]? = some (some sl) := by rw [List.getElem?_eq_getElem hv1, hr]
          obtain ⟨k0, _⟩ := okOwn_at ho hv e1
          obtain ⟨b, g1, g0, g2, hb, hg', hpp, _⟩ := a1.at e1
          rw [List.getElem?_eq_getElem hlt] at hb
          cases hb
          cases hs : st[v] with
          | none =>
            rw [hs] at hpp
            exact False.elim hpp
          | some u =>
            rw [hs] at hpp
            have hpp' : Ow X.K w1 sl.k sl.d u g0 := hpp
            show Ow X.K w2 sl.k sl.d u []
            rw [k0] at hpp' ⊢
            exact ⟨Vx.mono S2.fz _ _ hpp'.1, rfl⟩
      · by_cases hv : j ∈ vs
        · have e1 := backR_in hnd hv hj
          have e2 : s1.r[j]? = some (some sl) := by
            rw [List.getD_eq_getElem?_getD] at e1
            cases hq : s1.r[j]? with
            | none =>
              rw [hq] at e1
              cases e1
            | some o =>
              rw [hq] at e1
              have e1' : o = some sl := e1
              rw [e1']
          rw [(okOwn_at ho hv e2).2] at hpj
          cases hpj
        · have hj' : (backR s1.r s2.r vs)[j]? = some (some sl) := hj
          rw [backR_out hv] at hj'
          obtain ⟨v, h1, h2⟩ := R2.pin j sl hj' hpj
          exact ⟨v, (wipe_out hv).symm.trans h1, h2⟩
    have nd : ([Dd] ++ fp2).Nodup := List.nodup_cons.mpr ⟨hD2, R2.nd⟩
    exact hp2 (.ref Dd) w2 [Dd] fp2 R3 ow2 nd (S1.trans S2)
  -- the state as the turns begin
  obtain ⟨fpw, Rw, subw⟩ := R1.wipe (vs := vs)
  have hDn : w1.F Dd = none := R1.ok.none hDd
  have hDf : Dd ∉ fpw := fun m => (Rw.dom Dd m).1 hDd
  have start : ∃ wN, wN.H = upd w1.H Dd (.lst []) ∧ Rel X.K s0 { s1 with r := wipeR s1.r vs } (wipe st vs) wN fpw ∧ Stp w1 fp1 wN (Dd :: fpw) ∧ Ow X.K wN 1 (.lst []) (.ref Dd) [Dd] := by
    have q := Res.lst (K := X.K) (w := w1) (ds := []) (xs := []) (p := Dd) (Q := fun v H' => v = .ref Dd → ∃ wN, wN.H = H' ∧ Stp w1 [] wN [Dd] ∧ wN.N = w1.N ∧ Ow X.K wN 1 (.lst []) (.ref Dd) [Dd]) (fun v w' fo S hN hn ow e => by
      subst e
      obtain ⟨xs, _, _, h3, _⟩ := ow1_inv ow
      subst h3
      exact ⟨w', rfl, S, hN, ow⟩) R1.ok rfl hDd
    obtain ⟨wN, h1, h2, h3, h4⟩ := q rfl
    refine ⟨wN, h1, Rw.alloc h2 h3, ?_, h4⟩
    have q1 : Stp w1 (fp1 ++ []) wN (fp1 ++ [Dd]) := h2.beside
    rw [List.append_nil] at q1
    exact q1.sub fun x m => by
      rcases List.mem_cons.mp m with rfl | m
      · simp
      · simp [subw x m]
  obtain ⟨wN, eN, RN, SN, owN⟩ := start
  rw [← eN]
  cases z with
  | fix ds =>
    have hp2 : Post X wx (RE X.K st) s0 st w fp (if (okOwn s1.r vs && true) = true then (match lcG (fun j => opt ds[j]?) (ret ()) (stepM f c e) vs ds.length ds.length [] { s1 with r := wipeR s1.r vs } with
      | .ok acc s' => .ok (.val (.lst acc) 1) { s' with r := backR s1.r s'.r vs }
      | _ => .no) else .no) Q := hp1
    rw [Bool.and_true] at hp2
    by_cases ho : okOwn s1.r vs = true
    · rw [if_pos ho] at hp2
      cases hl : lcG (fun j => opt ds[j]?) (ret ()) (stepM f c e) vs ds.length ds.length [] { s1 with r := wipeR s1.r vs } with
      | ok acc s' =>
        rw [hl] at hp2
        refine lc_turns (w := w1) (fp := fp1) (Fin := fun acc s' => Post X wx (RE X.K st) s0 st w fp (.ok (.val (.lst acc) 1) { s' with r := backR s1.r s'.r vs }) Q) (Qd := fun H => Q (.ref Dd) H) hg ht he hts ?_ RN SN hDf owN ⟨acc, s', hl, hp2⟩ (fin ho)
        intro s2 w2 fp2 R2 L
        have hj := hz w2 R2.ok L
        refine ⟨fun j d s3 e3 => ?_, fun u s3 e3 => ?_⟩
        · dsimp only at e3
          cases hd : ds[j]? with
          | none =>
            rw [hd] at e3
            cases e3
          | some d' =>
            rw [hd] at e3
            cases e3
            exact ⟨rfl, hj.1 j d hd⟩
        · cases e3
          exact ⟨rfl, hj.2⟩
      | ex y s' =>
        rw [hl] at hp2
        exact hp2.elim
      | no =>
        rw [hl] at hp2
        exact hp2.elim
    · rw [if_neg ho] at hp2
      exact hp2.elim
  | bor i g =>
    have hp2 : Post X wx (RE X.K st) s0 st w fp (if (okOwn s1.r vs && decide (i ∉ vs)) = true then (match lcG (fun j => bnd (lstAt false i (lenAt s1 i)) fun ds => bnd (opt ds[j]?) fun d => ret (g j d)) (bnd (lstAt false i (lenAt s1 i)) fun _ => ret ()) (stepM f c e) vs (lenAt s1 i) (lenAt s1 i) [] { s1 with r := wipeR s1.r vs } with
      | .ok acc s' => .ok (.val (.lst acc) 1) { s' with r := backR s1.r s'.r vs }
      | _ => .no) else .no) Q := hp1
    by_cases ho : (okOwn s1.r vs && decide (i ∉ vs)) = true
    · rw [if_pos ho] at hp2
      rw [Bool.and_eq_true] at ho
      have hiv : i ∉ vs := of_decide_eq_true ho.2
      cases hl : lcG (fun j => bnd (lstAt false i (lenAt s1 i)) fun ds => bnd (opt ds[j]?) fun d => ret (g j d)) (bnd (lstAt false i (lenAt s1 i)) fun _ => ret ()) (stepM f c e) vs (lenAt s1 i) (lenAt s1 i) [] { s1 with r := wipeR s1.r vs } with
      | ok acc s' =>
        rw [hl] at hp2
        refine lc_turns (w := w1) (fp := fp1) (Fin := fun acc s' => Post X wx (RE X.K st) s0 st w fp (.ok (.val (.lst acc) 1) { s' with r := backR s1.r s'.r vs }) Q) (Qd := fun H => Q (.ref Dd) H) hg ht he hts ?_ RN SN hDf owN ⟨acc, s', hl, hp2⟩ (fin ho.1)
        intro s2 w2 fp2 R2 L
        obtain ⟨a, ha, hJ⟩ := hz
        have ha2 : (wipe st vs)[i]? = some (some (.ref a)) := (wipe_out hiv).trans ha
        refine ⟨fun j d s3 e3 => ?_, fun u s3 e3 => ?_⟩
        · unfold bnd at e3
          dsimp only at e3
          cases hls : lstAt false i (lenAt s1 i) s2 with
          | ex y s4 => exact (lstAt_no hls).elim
          | no =>
            rw [hls] at e3
            cases e3
          | ok ds s4 =>
            obtain ⟨rfl, k1, xs, k2, k3⟩ := lstAt_ok R2 hls ha2
            rw [hls] at e3
            dsimp only at e3
            cases hd : ds[j]? with
            | none =>
              rw [hd] at e3
              cases e3
            | some d' =>
              rw [hd] at e3
              cases e3
              obtain ⟨v, hv, vx⟩ := k3.get hd
              exact ⟨rfl, (hJ w2 xs R2.ok k2).1 j v d' hv vx⟩
        · unfold bnd at e3
          dsimp only at e3
          cases hls : lstAt false i (lenAt s1 i) s2 with
          | ex y s4 => exact (lstAt_no hls).elim
          | no =>
            rw [hls] at e3
            cases e3
          | ok ds s4 =>
            obtain ⟨rfl, k1, xs, k2, k3⟩ := lstAt_ok R2 hls ha2
            rw [hls] at e3
            cases e3
            refine ⟨rfl, ?_⟩
            have q := (hJ w2 xs R2.ok k2).2
            rw [k3.length, k1] at q
            exact q
      | ex y s' =>
        rw [hl] at hp2
        exact hp2.elim
      | no =>
        rw [hl] at hp2
        exact hp2.elim
    · rw [if_neg ho] at hp2
      exact hp2.elim
theorem ce_lc {elt tg iter : Expr} {ifs : List Expr} {own : List (Str × Nat)} {ts : List Nat} {pos : Pos} {src : M Src} {f : D → Nat → M Unit} {c : M Bool} {e : M Op} (hc : X.calm = true) (hN : X.N.Nodup) (hi : CI X wx tg iter src) (ok : BlkOk X.N X.env.scope scope own)
    (hg : ∀ (s : Shared) (H : Hp) (C : Addr) (cl : List (Str × Addr)) (fp : List Addr), CG (X.blk s H scope (compEnvC scope cl C X.env) fp) tg f ts) (ht : ∀ (s : Shared) (H : Hp) (C : Addr) (cl : List (Str × Addr)) (fp : List Addr), CTs (X.blk s H scope (compEnvC scope cl C X.env) fp) wxF ifs c)
    (he : ∀ (s : Shared) (H : Hp) (C : Addr) (cl : List (Str × Addr)) (fp : List Addr), CE (X.blk s H scope (compEnvC scope cl C X.env) fp) wxF elt e) (hts : ∀ j ∈ ts, j ∈ own.map (·.2) := by decide) (hnd : (own.map (·.2)).Nodup := by decide) (hs : ∀ x, foldedSetIterable iter X.env x = pure x := by intro _; rfl) :
    CE X wx (.ListComp elt [⟨tg, iter, ifs, 0⟩] scope pos) (lcM src f c e (own.map (·.2))) :=
  ⟨fun s0 s st w fp Q R hp => ⟨_, pe_lc hc hN pi_W ok pg_U pt_U pe_U hs, lc_read hi hg ht he hts hnd R hp⟩⟩
/-- name = [..] -/
theorem cs_setLc {i : Nat} {y : Str} {py : Pos} {elt tg iter : Expr} {ifs : List Expr} {own : List (Str × Nat)} {ts : List Nat} {pos spos : Pos} {src : M Src} {f : D → Nat → M Unit} {c : M Bool} {e : M Op} (hc : X.calm = true) (hN : X.N.Nodup) (hy : X.N[i]? = some y) (hyl : X.env.scope.names.lookup y = some .local)
    (hsw : swapsWith (.ListComp elt [⟨tg, iter, ifs, 0⟩] scope pos) (some (.Name y py)) spos.line X.env = pure true) (hx : Loc X.env.scope y) (hi : CI X wx tg iter src) (ok : BlkOk X.N X.env.scope scope own)
    (hg : ∀ (s : Shared) (H : Hp) (C : Addr) (cl : List (Str × Addr)) (fp : List Addr), CG (X.blk s H scope (compEnvC scope cl C X.env) fp) tg f ts) (ht : ∀ (s : Shared) (H : Hp) (C : Addr) (cl : List (Str × Addr)) (fp : List Addr), CTs (X.blk s H scope (compEnvC scope cl C X.env) fp) wxF ifs c)
    (he : ∀ (s : Shared) (H : Hp) (C : Addr) (cl : List (Str × Addr)) (fp : List Addr), CE (X.blk s H scope (compEnvC scope cl C X.env) fp) wxF elt e) (hts : ∀ j ∈ ts, j ∈ own.map (·.2) := by decide) (hnd : (own.map (·.2)).Nodup := by decide) (hs : ∀ x, foldedSetIterable iter X.env x = pure x := by intro _; rfl) :
    CS X wx (.Assign [.Name y py] (.ListComp elt [⟨tg, iter, ifs, 0⟩] scope pos) spos) (stM (setM i) (lcM src f c e (own.map (·.2)))) := by
  refine ⟨fun s0 s st w fp E R hp => ⟨_, ps_setLc hc hN hy hyl hsw pi_W ok pg_U pt_U pe_U hs, ?_⟩⟩
  refine lc_read hi hg ht he hts hnd R ?_
  unfold stM bnd at hp
  cases hm : lcM src f c e (own.map (·.2)) s with
  | ex x s1 =>
    rw [hm] at hp
    exact Post.toX hp
  | no =>
    rw [hm] at hp
    exact hp.elim
  | ok o s1 =>
    rw [hm] at hp
    intro v w1 f1 fp1 R1 r1 n1 S1
    obtain ⟨d, k, s2, w2, f2, fp2, R2, ow, n2, S2, eH, hp2⟩ := ownS_go (f := fun p => bnd (setM i p.1 p.2) fun _ => ret .nx) hp R1 r1 n1
    rw [← eH]
    show gName i v st w2.H E.nx
    unfold bnd at hp2
    cases hs' : setM i d k s2 with
    | ok u s3 =>
      rw [hs'] at hp2
      obtain ⟨rfl, old, h1, h2⟩ := setM_ok hs'
      obtain ⟨fp', R', sb⟩ := R2.set h1 h2 ow n2
      exact hp2 _ w2 fp' R' ((S1.trans S2).trans ((Stp.refl R2.ok).sub sb))
    | ex x s3 => 
      rw [hs'] at hp2
      unfold setM at hs'
      split at hs'
      · split at hs' <;> cases hs'
      · cases hs'
      · cases hs'
    | no =>
      rw [hs'] at hp2
      exact hp2.elim
end
end Mi

set_option Elab.async false
set_option linter.all false
set_option maxRecDepth 100000
set_option maxHeartbeats 4000000
namespace Mi
open PySem L2

/-! ### built-in functions and types -/
def bltM (f : List D → Option (D × Nat)) (ms : M (List Op)) : M Op := bnd ms fun os => bnd (flats os) fun ds => bnd (opt (f ds)) fun r => ret (.val r.1 r.2)
def Blt (X : Cx) (r : List V → Hp → VK → Prop) (f : List D → Option (D × Nat)) : Prop := ∀ (w : Wd) (ds : List D) (vs : List V) (o : D) (k : Nat) (Q : VK), w.Ok → ItVs X.K w ds vs → f ds = some (o, k) → Res X.K w o k Q → r vs w.H Q
section
variable {X : Cx} {wx : WX} {w : Wd} {id T : String} {x : Str} {p pos : Pos} {e : Expr} {es : List Expr} {ms : M (List Op)} {r : List V → Hp → VK → Prop} {f : List D → Option (D × Nat)}
theorem blt_read (hb : Blt X r f) (ha : CA X wx es ms) {s0 s st fp Q} (R : Rel X.K s0 s st w fp) (hp : Post X wx (RE X.K st) s0 st w fp (bltM f ms s) Q) : WA X es st w.H fun vs H1 => r vs H1 Q := by
  refine ha.go R (Stp.refl R.ok) hp fun os s1 vs w1 f1 fp1 R1 r1 n1 S1 hp1 => ?_
  obtain ⟨ds, iv, hp2⟩ := flats_go hp1 R1 r1
  obtain ⟨⟨o, k⟩, ef, hp3⟩ := opt_go hp2
  exact hb w1 ds vs o k Q R1.ok iv ef (res_end (g := f1) hp3 R1 S1)
theorem ce_blt (hc : CallR X (.builtin id) r) (hb : Blt X r f) (hg : Gl X x) (hm : X.mg x = none) (hv : bootBuiltins x = some (.builtin id)) (ha : CA X wx (e :: es) ms) (hn : x ≠ "__name__" := by decide) (hdb : (x == ("__debug__" : Str)) = false := by decide)
    (he : starEach (e :: es) X.env = (false, eval e X.env) :: starEach es X.env := by rfl) (hpl : (backTo pos (starEach es X.env)).any (·.1) = false := by rfl) : CE X wx (.Call (.Name x p) (e :: es) [] pos) (bltM f ms) :=
  ⟨fun s0 s st w fp Q R hp => ⟨_, pe_callB hc hg hm hv pa_W hn hdb he hpl, blt_read hb ha R hp⟩⟩
theorem ce_bty (hc : CallR X (.type T) r) (hb : Blt X r f) (hg : Gl X x) (hm : X.mg x = none) (hv : bootBuiltins x = some (.type T)) (ha : CA X wx (e :: es) ms) (hn : x ≠ "__name__" := by decide) (hdb : (x == ("__debug__" : Str)) = false := by decide)
    (he : starEach (e :: es) X.env = (false, eval e X.env) :: starEach es X.env := by rfl) (hpl : (backTo pos (starEach es X.env)).any (·.1) = false := by rfl) : CE X wx (.Call (.Name x p) (e :: es) [] pos) (bltM f ms) :=
  ⟨fun s0 s st w fp Q R hp => ⟨_, pe_callTy hc hg hm hv pa_W hn hdb he hpl, blt_read hb ha R hp⟩⟩
theorem ce_tyn (hg : Gl X x) (hm : X.mg x = none) (hv : bootBuiltins x = some (.type T)) (hn : x ≠ "__name__" := by decide) (hdb : (x == ("__debug__" : Str)) = false := by decide) : CE X wx (.Name x pos) (cn (.ty T)) :=
  ce_cn (v := .ty T) (pe_bltn hg hm hv rfl hn hdb) fun _ => ⟨rfl, rfl⟩
end

/-! ### lists of one kind -/
def intsOf : List D → Option (List Int)
  | [] => some []
  | .int i :: r => (intsOf r).map (i :: ·)
  | _ => none
def strsOf : List D → Option (List Str)
  | [] => some []
  | .str i :: r => (strsOf r).map (i :: ·)
  | _ => none
def blsOf : List D → Option (List Bool)
  | [] => some []
  | .bl i :: r => (blsOf r).map (i :: ·)
  | _ => none
def keyStrs : List (Key × D) → Option (List Str)
  | [] => some []
  | (.inr x, _) :: r => (keyStrs r).map (x :: ·)
  | _ => none
section
variable {r : Rp}
theorem intsOf_ok : ∀ {ds : List D} {vs : List V} {ns : List Int}, VxL r ds vs → intsOf ds = some ns → vs = ns.map V.int
  | [], vs, ns, h, e => by
    cases e
    exact h
  | .int i :: ds, vs, ns, ⟨v, t, e1, h1, h2⟩, e => by
    unfold intsOf at e
    obtain ⟨q, h3, h4⟩ := map_some' e
    rw [e1, ← h4, List.map_cons, ← intsOf_ok h2 h3, show v = .int i from h1]
  | .non :: _, _, _, _, e => by cases e
  | .bl _ :: _, _, _, _, e => by cases e
  | .str _ :: _, _, _, _, e => by cases e
  | .tup _ :: _, _, _, _, e => by cases e
  | .lst _ :: _, _, _, _, e => by cases e
  | .dct _ :: _, _, _, _, e => by cases e
  | .dcT _ :: _, _, _, _, e => by cases e
  | .set _ :: _, _, _, _, e => by cases e
  | .obj _ :: _, _, _, _, e => by cases e
  | .glb _ :: _, _, _, _, e => by cases e
  | .exc _ _ :: _, _, _, _, e => by cases e
  | .ty _ :: _, _, _, _, e => by cases e
  | .scr _ :: _, _, _, _, e => by cases e
theorem strsOf_ok : ∀ {ds : List D} {vs : List V} {ns : List Str}, VxL r ds vs → strsOf ds = some ns → vs = ns.map V.str
  | [], vs, ns, h, e => by
    cases e
    exact h
  | .str i :: ds, vs, ns, ⟨v, t, e1, h1, h2⟩, e => by
    unfold strsOf at e
    obtain ⟨q, h3, h4⟩ := map_some' e
    rw [e1, ← h4, List.map_cons, ← strsOf_ok h2 h3, show v = .str i from h1]
  | .non :: _, _, _, _, e => by cases e
  | .bl _ :: _, _, _, _, e => by cases e
  | .int _ :: _, _, _, _, e => by cases e
  | .tup _ :: _, _, _, _, e => by cases e
  | .lst _ :: _, _, _, _, e => by cases e
  | .dct _ :: _, _, _, _, e => by cases e
  | .dcT _ :: _, _, _, _, e => by cases e
  | .set _ :: _, _, _, _, e => by cases e
  | .obj _ :: _, _, _, _, e => by cases e
  | .glb _ :: _, _, _, _, e => by cases e
  | .exc _ _ :: _, _, _, _, e => by cases e
  | .ty _ :: _, _, _, _, e => by cases e
  | .scr _ :: _, _, _, _, e => by cases e
theorem blsOf_ok : ∀ {ds : List D} {vs : List V} {ns : List Bool}, VxL r ds vs → blsOf ds = some ns → vs = ns.map V.bl
  | [], vs, ns, h, e => by
    cases e
    exact h
  | .bl i :: ds, vs, ns, ⟨v, t, e1, h1, h2⟩, e => by
    unfold blsOf at e
    obtain ⟨q, h3, h4⟩ := map_some' e
    rw [e1, ← h4, List.map_cons, ← blsOf_ok h2 h3, show v = .bl i from h1]
  | .non :: _, _, _, _, e => by cases e
  | .str _ :: _, _, _, _, e => by cases e
  | .int _ :: _, _, _, _, e => by cases e
  | .tup _ :: _, _, _, _, e => by cases e
  | .lst _ :: _, _, _, _, e => by cases e
  | .dct _ :: _, _, _, _, e => by cases e
  | .dcT _ :: _, _, _, _, e => by cases e
  | .set _ :: _, _, _, _, e => by cases e
  | .obj _ :: _, _, _, _, e => by cases e
  | .glb _ :: _, _, _, _, e => by cases e
  | .exc _ _ :: _, _, _, _, e => by cases e
  | .ty _ :: _, _, _, _, e => by cases e
  | .scr _ :: _, _, _, _, e => by cases e
theorem keyStrs_ok : ∀ {ds : List (Key × D)} {kv : List (Key × V)} {ks : List Str}, VxD r ds kv → keyStrs ds = some ks → kv.map (·.1) = ks.map Sum.inr
  | [], kv, ks, h, e => by
    cases e
    rw [show kv = [] from h]
    rfl
  | (.inr x, d) :: ds, kv, ks, ⟨v, t, e1, h1, h2⟩, e => by
    unfold keyStrs at e
    obtain ⟨q, h3, h4⟩ := map_some' e
    rw [e1, ← h4, List.map_cons, List.map_cons, keyStrs_ok h2 h3]
  | (.inl _, _) :: _, _, _, _, e => by cases e
end
/-- what is read of a list -/
theorem itv_lst {K : PySem.W.Frag} {w : Wd} {ds : List D} {v : V} (h : ItV K w (.lst ds) v) : ∃ a xs, v = .ref a ∧ w.H a = some (.lst xs) ∧ VxL (w.fz K) ds xs := h

/-! ### texts in order -/
def leS (a b : Str) : Bool := !decide (b.cps.toList < a.cps.toList)
def sortS (ss : List Str) : List Str := ss.mergeSort leS
theorem leS_trans (a b c : Str) : leS a b = true → leS b c = true → leS a c = true := by
  unfold leS
  simp only [Bool.not_eq_true', decide_eq_false_iff_not, List.not_lt]
  exact List.le_trans
theorem leS_total (a b : Str) : (leS a b || leS b a) = true := by
  unfold leS
  simp only [Bool.or_eq_true, Bool.not_eq_true', decide_eq_false_iff_not, List.not_lt]
  exact List.le_total ..
theorem leS_anti (a b : Str) : leS a b = true → leS b a = true → a = b := by
  unfold leS
  simp only [Bool.not_eq_true', decide_eq_false_iff_not, List.not_lt]
  intro h1 h2
  have e := List.le_antisymm h1 h2
  cases a
  cases b
  congr 1
  exact Array.toList_inj.mp e
theorem perm_uniq {α : Type} {le : α → α → Prop} (anti : ∀ a b, le a b → le b a → a = b) : ∀ {xs ys : List α}, xs.Perm ys → xs.Pairwise le → ys.Pairwise le → xs = ys
  | [], ys, h, _, _ => (List.nil_perm.mp h).symm
  | x :: xs, [], h, _, _ => absurd h.symm (by simp)
  | x :: xs, y :: ys, h, hx, hy => by
    have e : x = y := by
      rcases List.mem_cons.mp (h.mem_iff.mp (List.mem_cons_self ..)) with q | q
      · exact q
      · rcases List.mem_cons.mp (h.mem_iff.mpr (List.mem_cons_self ..)) with q2 | q2
        · exact q2.symm
        · exact anti _ _ ((List.pairwise_cons.mp hx).1 y q2) ((List.pairwise_cons.mp hy).1 x q)
    subst e
    rw [perm_uniq anti (List.Perm.cons_inv h) (List.pairwise_cons.mp hx).2 (List.pairwise_cons.mp hy).2]
theorem rising_pair : ∀ {xs : List Str} {p : Str}, PyProof.Rows.risingS p xs = true → (p :: xs).Pairwise (fun a b => leS a b = true)
  | [], p, _ => List.pairwise_singleton ..
  | x :: r, p, h => by
    unfold PyProof.Rows.risingS at h
    rw [Bool.and_eq_true, PyProof.Rows.ltCps_eq] at h
    have ih := rising_pair h.2
    have hpx : leS p x = true := h.1
    refine List.pairwise_cons.mpr ⟨fun y hy => ?_, ih⟩
    rcases List.mem_cons.mp hy with rfl | hy
    · exact hpx
    · exact leS_trans _ _ _ hpx ((List.pairwise_cons.mp ih).1 y hy)
theorem sorted_uniq {xs ys : List Str} (h : ys.Perm xs) (s : PyProof.Rows.sortedS ys = true) : ys = sortS xs := by
  refine perm_uniq (le := fun a b => leS a b = true) (fun a b => leS_anti a b) (h.trans (List.mergeSort_perm xs leS).symm) ?_ (List.pairwise_mergeSort leS_trans leS_total xs)
  cases ys with
  | nil => exact List.Pairwise.nil
  | cons y ys => exact rising_pair s
end Mi

set_option Elab.async false
set_option linter.all false
set_option maxRecDepth 100000
set_option maxHeartbeats 4000000
namespace Mi
open PySem L2

def lenF : List D → Option (D × Nat)
  | [.str z] => if z.length ≤ cap then some (.int (z.length : Nat), 0) else none
  | [.lst ds] => some (.int (ds.length : Nat), 0)
  | [.tup ds] => some (.int (ds.length : Nat), 0)
  | [.scr ds] => some (.int (ds.length : Nat), 0)
  | _ => none
def intF : List D → Option (D × Nat)
  | [.int i] => some (.int i, 0)
  | [.bl b] => some (.int (if b then 1 else 0), 0)
  | _ => none
def boolF : List D → Option (D × Nat)
  | [.int i] => some (.bl (i != 0), 0)
  | [.bl b] => some (.bl b, 0)
  | _ => none
def strF : List D → Option (D × Nat)
  | [.int i] => if i.natAbs.log2 < 1920 then some (.str (toString i), 0) else none
  | [.str a] => some (.str a, 0)
  | _ => none
def absF : List D → Option (D × Nat)
  | [.int i] => some (.int (if i < 0 then -i else i), 0)
  | _ => none
def maxI : List Int → Option Int
  | [] => none
  | [x] => some x
  | x :: xs => (maxI xs).map fun y => if y ≤ x then x else y
def minI : List Int → Option Int
  | [] => none
  | [x] => some x
  | x :: xs => (minI xs).map fun y => if x ≤ y then x else y
def maxF : List D → Option (D × Nat)
  | [.int i, .int j] => some (.int (if j > i then j else i), 0)
  | [.lst ds] => (intsOf ds).bind fun ns => (maxI ns).map fun m => (.int m, 0)
  | _ => none
def minF : List D → Option (D × Nat)
  | [.int i, .int j] => some (.int (if j < i then j else i), 0)
  | [.lst ds] => (intsOf ds).bind fun ns => (minI ns).map fun m => (.int m, 0)
  | _ => none
def sumF : List D → Option (D × Nat)
  | [.lst ds] => (intsOf ds).map fun ns => (.int ns.sum, 0)
  | _ => none
def anyF : List D → Option (D × Nat)
  | [.lst ds] => (blsOf ds).map fun ns => (.bl (ns.any id), 0)
  | _ => none
def allF : List D → Option (D × Nat)
  | [.lst ds] => (blsOf ds).map fun ns => (.bl (ns.all id), 0)
  | _ => none
def sortF : List D → Option (D × Nat)
  | [.lst ds] => (strsOf ds).bind fun ss => if ss.length < 64 then some (.lst ((sortS ss).map .str), 1) else none
  | [.dct kvs] => (keyStrs kvs).bind fun ss => if ss.length < 64 then some (.lst ((sortS ss).map .str), 1) else none
  | _ => none
def tupF : List D → Option (D × Nat)
  | [.lst ds] => some (.tup ds, 0)
  | [.tup ds] => some (.tup ds, 0)
  | _ => none
def lstF : List D → Option (D × Nat)
  | [.lst ds] => some (.lst ds, 1)
  | [.tup ds] => some (.lst ds, 1)
  | _ => none
section
variable {X : Cx} {wx : WX} {w : Wd}
theorem maxI_ok : ∀ {ns : List Int} {m : Int}, maxI ns = some m → 0 < ns.length ∧ ∀ m', m' ∈ ns → (∀ y, y ∈ ns → y ≤ m') → m' = m := by
  have key : ∀ {ns : List Int} {m : Int}, maxI ns = some m → m ∈ ns ∧ ∀ y ∈ ns, y ≤ m := by
    intro ns
    induction ns with
    | nil =>
      intro m e
      cases e
    | cons x xs ih =>
      intro m e
      cases xs with
      | nil =>
        cases e
        simp
      | cons y ys =>
        obtain ⟨q, h1, h2⟩ := map_some' (show (maxI (y :: ys)).map (fun y => if y ≤ x then x else y) = some m from e)
        obtain ⟨h3, h4⟩ := ih h1
        by_cases hq : q ≤ x
        · rw [if_pos hq] at h2
          subst h2
          refine ⟨List.mem_cons_self .., fun z hz => ?_⟩
          rcases List.mem_cons.mp hz with rfl | hz
          · omega
          · have := h4 z hz
            omega
        · rw [if_neg hq] at h2
          subst h2
          refine ⟨List.mem_cons_of_mem _ h3, fun z hz => ?_⟩
          rcases List.mem_cons.mp hz with rfl | hz
          · omega
          · exact h4 z hz
  intro ns m e
  obtain ⟨h1, h2⟩ := key e
  refine ⟨List.length_pos_of_mem h1, fun m' hm hy => ?_⟩
  have := h2 m' hm
  have := hy m h1
  omega
theorem minI_ok : ∀ {ns : List Int} {m : Int}, minI ns = some m → 0 < ns.length ∧ ∀ m', m' ∈ ns → (∀ y, y ∈ ns → m' ≤ y) → m' = m := by
  have key : ∀ {ns : List Int} {m : Int}, minI ns = some m → m ∈ ns ∧ ∀ y ∈ ns, m ≤ y := by
    intro ns
    induction ns with
    | nil =>
      intro m e
      cases e
    | cons x xs ih =>
      intro m e
      cases xs with
      | nil =>
        cases e
        simp
      | cons y ys =>
        obtain ⟨q, h1, h2⟩ := map_some' (show (minI (y :: ys)).map (fun y => if x ≤ y then x else y) = some m from e)
        obtain ⟨h3, h4⟩ := ih h1
        by_cases hq : x ≤ q
        · rw [if_pos hq] at h2
          subst h2
          refine ⟨List.mem_cons_self .., fun z hz => ?_⟩
          rcases List.mem_cons.mp hz with rfl | hz
          · omega
          · have := h4 z hz
            omega
        · rw [if_neg hq] at h2
          subst h2
          refine ⟨List.mem_cons_of_mem _ h3, fun z hz => ?_⟩
          rcases List.mem_cons.mp hz with rfl | hz
          · omega
          · exact h4 z hz
  intro ns m e
  obtain ⟨h1, h2⟩ := key e
  refine ⟨List.length_pos_of_mem h1, fun m' hm hy => ?_⟩
  have := h2 m' hm
  have := hy m h1
  omega
theorem blt_len : Blt X (fun xs H Q => ∃ x n, xs = [x] ∧ LenV X.K x H n ∧ Q (.int n) H) lenF := by
  intro w ds vs o k Q ok iv ef hr
  unfold lenF at ef
  split at ef
  · split at ef
    · rename_i z hz
      cases ef
      obtain ⟨v, rfl, rfl⟩ := itvs1 iv
      exact ⟨_, _, rfl, ⟨cap_line hz, rfl⟩, hr.int ok⟩
    · cases ef
  · cases ef
    obtain ⟨v, rfl, a, xs, rfl, h1, t⟩ := itvs1 iv
    exact ⟨_, _, rfl, .inl ⟨xs, .inl (.inl h1), t.length.symm⟩, hr.int ok⟩
  · cases ef
    obtain ⟨v, rfl, a, xs, rfl, h1, t⟩ := itvs1 iv
    exact ⟨_, _, rfl, .inr ⟨xs, SqT.of (ok _ _ h1), t.length.symm⟩, hr.int ok⟩
  · cases ef
    obtain ⟨v, rfl, a, xs, rfl, h1, t⟩ := itvs1 iv
    exact ⟨_, _, rfl, .inl ⟨xs, SqL.up (fun o e => ok _ o e) h1, t.length.symm⟩, hr.int ok⟩
  · cases ef
theorem blt_int : Blt X (fun xs H Q => (∃ i, xs = [.int i] ∧ Q (.int i) H) ∨ ∃ k, xs = [.bl k] ∧ Q (.int (if k then 1 else 0)) H) intF := by
  intro w ds vs o k Q ok iv ef hr
  unfold intF at ef
  split at ef
  · cases ef
    obtain ⟨v, rfl, rfl⟩ := itvs1 iv
    exact .inl ⟨_, rfl, hr.int ok⟩
  · cases ef
    obtain ⟨v, rfl, rfl⟩ := itvs1 iv
    exact .inr ⟨_, rfl, hr.int ok⟩
  · cases ef
theorem blt_bool : Blt X (fun xs H Q => (∃ i, xs = [.int i] ∧ Q (.bl (i != 0)) H) ∨ ∃ k, xs = [.bl k] ∧ Q (.bl k) H) boolF := by
  intro w ds vs o k Q ok iv ef hr
  unfold boolF at ef
  split at ef
  · cases ef
    obtain ⟨v, rfl, rfl⟩ := itvs1 iv
    exact .inl ⟨_, rfl, hr.bl ok⟩
  · cases ef
    obtain ⟨v, rfl, rfl⟩ := itvs1 iv
    exact .inr ⟨_, rfl, hr.bl ok⟩
  · cases ef
theorem blt_str : Blt X (fun xs H Q => (∃ i, xs = [.int i] ∧ i.natAbs.log2 < 1920 ∧ Q (.str (toString i)) H) ∨ ∃ a, xs = [.str a] ∧ Q (.str a) H) strF := by
  intro w ds vs o k Q ok iv ef hr
  unfold strF at ef
  split at ef
  · split at ef
    · rename_i hz
      cases ef
      obtain ⟨v, rfl, rfl⟩ := itvs1 iv
      exact .inl ⟨_, rfl, hz, hr.str ok⟩
    · cases ef
  · cases ef
    obtain ⟨v, rfl, rfl⟩ := itvs1 iv
    exact .inr ⟨_, rfl, hr.str ok⟩
  · cases ef
theorem blt_abs : Blt X (fun xs H Q => ∃ i, xs = [.int i] ∧ Q (.int (if i < 0 then -i else i)) H) absF := by
  intro w ds vs o k Q ok iv ef hr
  unfold absF at ef
  split at ef
  · cases ef
    obtain ⟨v, rfl, rfl⟩ := itvs1 iv
    exact ⟨_, rfl, hr.int ok⟩
  · cases ef
theorem blt_max : Blt X (fun xs H Q => (∃ i j, xs = [.int i, .int j] ∧ Q (.int (if j > i then j else i)) H) ∨ rMax X.K xs H Q) maxF := by
  intro w ds vs o k Q ok iv ef hr
  unfold maxF at ef
  split at ef
  · cases ef
    obtain ⟨v, u, rfl, rfl, rfl⟩ := itvs2 iv
    exact .inl ⟨_, _, rfl, hr.int ok⟩
  · obtain ⟨ns, h1, h2⟩ := Option.bind_eq_some_iff.mp ef
    obtain ⟨m, h3, h4⟩ := map_some' h2
    cases h4
    obtain ⟨v, rfl, a, xs, rfl, ha, t⟩ := itvs1 iv
    obtain ⟨h5, h6⟩ := maxI_ok h3
    rw [intsOf_ok t h1] at ha
    exact .inr ⟨a, ns, rfl, .inl (.inl ha), h5, fun m' hm hy => by rw [h6 m' hm hy]; exact hr.int ok⟩
  · cases ef
theorem blt_min : Blt X (fun xs H Q => (∃ i j, xs = [.int i, .int j] ∧ Q (.int (if j < i then j else i)) H) ∨ rMin X.K xs H Q) minF := by
  intro w ds vs o k Q ok iv ef hr
  unfold minF at ef
  split at ef
  · cases ef
    obtain ⟨v, u, rfl, rfl, rfl⟩ := itvs2 iv
    exact .inl ⟨_, _, rfl, hr.int ok⟩
  · obtain ⟨ns, h1, h2⟩ := Option.bind_eq_some_iff.mp ef
    obtain ⟨m, h3, h4⟩ := map_some' h2
    cases h4
    obtain ⟨v, rfl, a, xs, rfl, ha, t⟩ := itvs1 iv
    obtain ⟨h5, h6⟩ := minI_ok h3
    rw [intsOf_ok t h1] at ha
    exact .inr ⟨a, ns, rfl, .inl (.inl ha), h5, fun m' hm hy => by rw [h6 m' hm hy]; exact hr.int ok⟩
  · cases ef
theorem blt_sum : Blt X (rSum X.K) sumF := by
  intro w ds vs o k Q ok iv ef hr
  unfold sumF at ef
  split at ef
  · obtain ⟨ns, h1, h2⟩ := map_some' ef
    cases h2
    obtain ⟨v, rfl, a, xs, rfl, ha, t⟩ := itvs1 iv
    rw [intsOf_ok t h1] at ha
    exact ⟨a, ns, rfl, .inl (.inl ha), hr.int ok⟩
  · cases ef
theorem blt_any : Blt X (rAny X.K) anyF := by
  intro w ds vs o k Q ok iv ef hr
  unfold anyF at ef
  split at ef
  · obtain ⟨ns, h1, h2⟩ := map_some' ef
    cases h2
    obtain ⟨v, rfl, a, xs, rfl, ha, t⟩ := itvs1 iv
    rw [blsOf_ok t h1] at ha
    exact ⟨a, ns, rfl, .inl (.inl ha), hr.bl ok⟩
  · cases ef
theorem blt_all : Blt X (rAll X.K) allF := by
  intro w ds vs o k Q ok iv ef hr
  unfold allF at ef
  split at ef
  · obtain ⟨ns, h1, h2⟩ := map_some' ef
    cases h2
    obtain ⟨v, rfl, a, xs, rfl, ha, t⟩ := itvs1 iv
    rw [blsOf_ok t h1] at ha
    exact ⟨a, ns, rfl, .inl (.inl ha), hr.bl ok⟩
  · cases ef
theorem strs_vx {r : Rp} : ∀ {ss : List Str}, VxL r (ss.map .str) (ss.map V.str)
  | [] => rfl
  | s :: ss => ⟨_, _, rfl, rfl, strs_vx⟩
theorem blt_sort : Blt X (fun xs H Q => rSortedS X.K xs H Q ∨ ∃ (a : Addr) (kvs : List (Key × V)) (ks : List Str), xs = [.ref a] ∧ Rd H a (.dK kvs) ∧ kvs.map (·.1) = ks.map Sum.inr ∧ ks.length < 64 ∧
    ∀ ys p, ys.Perm ks → PyProof.Rows.sortedS ys = true → H p = none → Q (.ref p) (upd H p (.lst (ys.map V.str)))) sortF := by
  intro w ds vs o k Q ok iv ef hr
  unfold sortF at ef
  split at ef
  · obtain ⟨ss, h1, h2⟩ := Option.bind_eq_some_iff.mp ef
    split at h2
    · rename_i h64
      cases h2
      obtain ⟨v, rfl, a, xs, rfl, ha, t⟩ := itvs1 iv
      rw [strsOf_ok t h1] at ha
      exact .inl ⟨a, ss, rfl, .inl (.inl ha), h64, fun ys p hy hs hp => by rw [sorted_uniq hy hs]; exact hr.lst ok strs_vx hp⟩
    · cases h2
  · obtain ⟨ss, h1, h2⟩ := Option.bind_eq_some_iff.mp ef
    split at h2
    · rename_i h64
      cases h2
      obtain ⟨v, rfl, a, kv, rfl, ha, t⟩ := itvs1 iv
      exact .inr ⟨a, kv, ss, rfl, ha, keyStrs_ok t h1, h64, fun ys p hy hs hp => by rw [sorted_uniq hy hs]; exact hr.lst ok strs_vx hp⟩
    · cases h2
  · cases ef
theorem blt_tuple : Blt X (fun xs H Q => ∃ p ys, xs = [.ref p] ∧ ((SqL X.K H p ys ∧ ∀ l, H l = none → Q (.ref l) (upd H l (.tup ys))) ∨ (SqT X.K H p ys ∧ Q (.ref p) H))) tupF := by
  intro w ds vs o k Q ok iv ef hr
  unfold tupF at ef
  split at ef
  · cases ef
    obtain ⟨v, rfl, a, xs, rfl, ha, t⟩ := itvs1 iv
    exact ⟨a, xs, rfl, .inl ⟨.inl (.inl ha), fun l hl => hr.tup ok t hl⟩⟩
  · cases ef
    obtain ⟨v, rfl, a, xs, rfl, ha, t⟩ := itvs1 iv
    exact ⟨a, xs, rfl, .inr ⟨SqT.of (ok _ _ ha), hr.here ok ⟨⟨a, xs, rfl, ha, t⟩, rfl⟩⟩⟩
  · cases ef
theorem blt_list : Blt X (fun xs H Q => ∃ p ys, xs = [.ref p] ∧ (SqL X.K H p ys ∨ SqT X.K H p ys) ∧ ∀ l, H l = none → Q (.ref l) (upd H l (.lst ys))) lstF := by
  intro w ds vs o k Q ok iv ef hr
  unfold lstF at ef
  split at ef
  · cases ef
    obtain ⟨v, rfl, a, xs, rfl, ha, t⟩ := itvs1 iv
    exact ⟨a, xs, rfl, .inl (.inl (.inl ha)), fun l hl => hr.lst ok t hl⟩
  · cases ef
    obtain ⟨v, rfl, a, xs, rfl, ha, t⟩ := itvs1 iv
    exact ⟨a, xs, rfl, .inr (SqT.of (ok _ _ ha)), fun l hl => hr.lst ok t hl⟩
  · cases ef
end

/-! ### isinstance -/
def tyN : D → Option String
  | .non => some "NoneType"
  | .bl _ => some "bool"
  | .int _ => some "int"
  | .str _ => some "str"
  | .tup _ => some "tuple"
  | .lst _ => some "list"
  | .dct _ => some "dict"
  | _ => none
def isiT (t T : String) : Bool := t == T || (t == "bool" && T == "int")
def isiF : List D → Option (D × Nat)
  | [d, .ty T] => if ["str", "tuple", "int", "bool", "list", "dict"].contains T then (tyN d).map fun t => (.bl (isiT t T), 0) else none
  | _ => none
theorem kit_tab (K : PySem.W.Frag) {t T : String} (ht : t ∈ ["NoneType", "bool", "int", "str", "tuple", "list", "dict"]) (hT : T ∈ ["str", "tuple", "int", "bool", "list", "dict"]) : PySem.W.kitOne K (.type t) (.type T) = some (isiT t T) := by
  simp only [List.mem_cons, List.not_mem_nil, or_false] at ht hT
  rcases ht with rfl | rfl | rfl | rfl | rfl | rfl | rfl <;> rcases hT with rfl | rfl | rfl | rfl | rfl | rfl <;> kernel_rfl
theorem tyN_ok {K : PySem.W.Frag} {w : Wd} {d : D} {v : V} {t : String} (h : ItV K w d v) (ok : w.Ok) (e : tyN d = some t) : TyX K w.H v (.type t) ∧ t ∈ ["NoneType", "bool", "int", "str", "tuple", "list", "dict"] := by
  cases d with
  | non => cases e; exact ⟨by rw [show v = .non from h]; exact .base .non, by simp⟩
  | bl b => cases e; exact ⟨by rw [show v = .bl b from h]; exact .base (.bl b), by simp⟩
  | int i => cases e; exact ⟨by rw [show v = .int i from h]; exact .base (.int i), by simp⟩
  | str z => cases e; exact ⟨by rw [show v = .str z from h]; exact .base (.str z), by simp⟩
  | tup ds =>
    cases e
    obtain ⟨a, xs, rfl, q, t⟩ := h
    exact ⟨.base (.tup (ok _ _ q)), by simp⟩
  | lst ds =>
    cases e
    obtain ⟨a, xs, rfl, q, t⟩ := h
    exact ⟨.base (.lst q), by simp⟩
  | dct kvs =>
    cases e
    obtain ⟨a, kv, rfl, q, t⟩ := h
    rcases q with q | ⟨o, q⟩
    · exact ⟨.base (.dK q), by simp⟩
    · exact ⟨.fDict q, by simp⟩
  | _ => cases e
theorem blt_isi {X : Cx} : Blt X (rIsi X.K) isiF := by
  intro w ds vs o k Q ok iv ef hr
  unfold isiF at ef
  split at ef
  · rename_i d T
    split at ef
    · rename_i hT
      obtain ⟨t, h1, h2⟩ := map_some' ef
      cases h2
      obtain ⟨v, u, rfl, i1, i2⟩ := itvs2 iv
      obtain ⟨ty, ht⟩ := tyN_ok i1 ok h1
      have eu : u = .ty T := i2
      subst eu
      exact ⟨v, .ty T, .type t, .type T, _, rfl, .ty T, ty, kit_tab X.K ht (by simpa using hT), hr.bl ok⟩
    · cases ef
  · cases ef

/-! ### the rules by name -/
section
variable {X : Cx} {wx : WX} {p pos : Pos} {e e2 : Expr} {ms : M (List Op)}
theorem ce_len (hg : Gl X "len") (hm : X.mg "len" = none) (ha : CA X wx [e] ms) (he : starEach [e] X.env = (false, eval e X.env) :: starEach [] X.env := by rfl) : CE X wx (.Call (.Name "len" p) [e] [] pos) (bltM lenF ms) := ce_blt call_len blt_len hg hm boot_len ha (he := he) (hpl := rfl)
theorem ce_intc (hg : Gl X "int") (hm : X.mg "int" = none) (ha : CA X wx [e] ms) (he : starEach [e] X.env = (false, eval e X.env) :: starEach [] X.env := by rfl) : CE X wx (.Call (.Name "int" p) [e] [] pos) (bltM intF ms) := ce_bty call_int1 blt_int hg hm (by decide +kernel) ha (he := he) (hpl := rfl)
theorem ce_boolc (hg : Gl X "bool") (hm : X.mg "bool" = none) (ha : CA X wx [e] ms) (he : starEach [e] X.env = (false, eval e X.env) :: starEach [] X.env := by rfl) : CE X wx (.Call (.Name "bool" p) [e] [] pos) (bltM boolF ms) := ce_bty call_bool1 blt_bool hg hm (by decide +kernel) ha (he := he) (hpl := rfl)
theorem ce_strc (hg : Gl X "str") (hm : X.mg "str" = none) (ha : CA X wx [e] ms) (he : starEach [e] X.env = (false, eval e X.env) :: starEach [] X.env := by rfl) : CE X wx (.Call (.Name "str" p) [e] [] pos) (bltM strF ms) := ce_bty (call_str_int.or SkE.call_str_str) blt_str hg hm (by decide +kernel) ha (he := he) (hpl := rfl)
theorem ce_absc (hg : Gl X "abs") (hm : X.mg "abs" = none) (ha : CA X wx [e] ms) (he : starEach [e] X.env = (false, eval e X.env) :: starEach [] X.env := by rfl) : CE X wx (.Call (.Name "abs" p) [e] [] pos) (bltM absF ms) := ce_blt call_abs blt_abs hg hm (by decide +kernel) ha (he := he) (hpl := rfl)
theorem ce_sumc (hc : X.calm = true) (hg : Gl X "sum") (hm : X.mg "sum" = none) (ha : CA X wx [e] ms) (he : starEach [e] X.env = (false, eval e X.env) :: starEach [] X.env := by rfl) : CE X wx (.Call (.Name "sum" p) [e] [] pos) (bltM sumF ms) := ce_blt (cr_sum hc) blt_sum hg hm (by decide +kernel) ha (he := he) (hpl := rfl)
theorem ce_anyc (hc : X.calm = true) (hg : Gl X "any") (hm : X.mg "any" = none) (ha : CA X wx [e] ms) (he : starEach [e] X.env = (false, eval e X.env) :: starEach [] X.env := by rfl) : CE X wx (.Call (.Name "any" p) [e] [] pos) (bltM anyF ms) := ce_blt (cr_any hc) blt_any hg hm (by decide +kernel) ha (he := he) (hpl := rfl)
theorem ce_allc (hc : X.calm = true) (hg : Gl X "all") (hm : X.mg "all" = none) (ha : CA X wx [e] ms) (he : starEach [e] X.env = (false, eval e X.env) :: starEach [] X.env := by rfl) : CE X wx (.Call (.Name "all" p) [e] [] pos) (bltM allF ms) := ce_blt (cr_all hc) blt_all hg hm (by decide +kernel) ha (he := he) (hpl := rfl)
theorem ce_max1 (hc : X.calm = true) (hg : Gl X "max") (hm : X.mg "max" = none) (ha : CA X wx [e] ms) (he : starEach [e] X.env = (false, eval e X.env) :: starEach [] X.env := by rfl) : CE X wx (.Call (.Name "max" p) [e] [] pos) (bltM maxF ms) := ce_blt ((call_max2 hc).or (cr_max hc)) blt_max hg hm (by decide +kernel) ha (he := he) (hpl := rfl)
theorem ce_max2 (hc : X.calm = true) (hg : Gl X "max") (hm : X.mg "max" = none) (ha : CA X wx [e, e2] ms) (he : starEach [e, e2] X.env = (false, eval e X.env) :: starEach [e2] X.env := by rfl) (hpl : (backTo pos (starEach [e2] X.env)).any (·.1) = false := by rfl) : CE X wx (.Call (.Name "max" p) [e, e2] [] pos) (bltM maxF ms) := ce_blt ((call_max2 hc).or (cr_max hc)) blt_max hg hm (by decide +kernel) ha (he := he) (hpl := hpl)
theorem ce_min1 (hc : X.calm = true) (hg : Gl X "min") (hm : X.mg "min" = none) (ha : CA X wx [e] ms) (he : starEach [e] X.env = (false, eval e X.env) :: starEach [] X.env := by rfl) : CE X wx (.Call (.Name "min" p) [e] [] pos) (bltM minF ms) := ce_blt ((call_min2 hc).or (cr_min hc)) blt_min hg hm (by decide +kernel) ha (he := he) (hpl := rfl)
theorem ce_min2 (hc : X.calm = true) (hg : Gl X "min") (hm : X.mg "min" = none) (ha : CA X wx [e, e2] ms) (he : starEach [e, e2] X.env = (false, eval e X.env) :: starEach [e2] X.env := by rfl) (hpl : (backTo pos (starEach [e2] X.env)).any (·.1) = false := by rfl) : CE X wx (.Call (.Name "min" p) [e, e2] [] pos) (bltM minF ms) := ce_blt ((call_min2 hc).or (cr_min hc)) blt_min hg hm (by decide +kernel) ha (he := he) (hpl := hpl)
theorem ce_sorted (hc : X.calm = true) (hg : Gl X "sorted") (hm : X.mg "sorted" = none) (ha : CA X wx [e] ms) (he : starEach [e] X.env = (false, eval e X.env) :: starEach [] X.env := by rfl) : CE X wx (.Call (.Name "sorted" p) [e] [] pos) (bltM sortF ms) := ce_blt (cr_sortedS.or (call_sortedD hc)) blt_sort hg hm (by decide +kernel) ha (he := he) (hpl := rfl)
theorem ce_tuplec (hg : Gl X "tuple") (hm : X.mg "tuple" = none) (ha : CA X wx [e] ms) (he : starEach [e] X.env = (false, eval e X.env) :: starEach [] X.env := by rfl) : CE X wx (.Call (.Name "tuple" p) [e] [] pos) (bltM tupF ms) := ce_bty call_tuple_of blt_tuple hg hm (by decide +kernel) ha (he := he) (hpl := rfl)
theorem ce_listc (hg : Gl X "list") (hm : X.mg "list" = none) (ha : CA X wx [e] ms) (he : starEach [e] X.env = (false, eval e X.env) :: starEach [] X.env := by rfl) : CE X wx (.Call (.Name "list" p) [e] [] pos) (bltM lstF ms) := ce_bty call_list_of blt_list hg hm (by decide +kernel) ha (he := he) (hpl := rfl)
theorem ce_isi (hg : Gl X "isinstance") (hm : X.mg "isinstance" = none) (ha : CA X wx [e, e2] ms) (he : starEach [e, e2] X.env = (false, eval e X.env) :: starEach [e2] X.env := by rfl) (hpl : (backTo pos (starEach [e2] X.env)).any (·.1) = false := by rfl) : CE X wx (.Call (.Name "isinstance" p) [e, e2] [] pos) (bltM isiF ms) := ce_blt call_isi blt_isi hg hm (by decide +kernel) ha (he := he) (hpl := hpl)
end
end Mi

set_option Elab.async false
set_option linter.all false
set_option maxRecDepth 100000
set_option maxHeartbeats 4000000
namespace Mi
open PySem L2

/-! ### an index -/
def atD (ds : List D) (i : Int) : Option D := (ixN ds.length i).bind fun j => ds[j]?
def ixF : D → D → Option (D × Nat)
  | .lst ds, .int i => (atD ds i).map fun d => (d, 0)
  | .tup ds, .int i => (atD ds i).map fun d => (d, 0)
  | .scr ds, .int i => (atD ds i).map fun d => (d, 0)
  | .str z, .int i => if z.length ≤ cap then (atI z.cps.toList i).map fun c => (sgn c, 0) else none
  | .dct kvs, e => (keyOf e).bind fun k => (getK kvs k).map fun d => (d, 0)
  | _, _ => none
def rIxDct : R2 := fun x y H Q => ∃ a v, x = .ref a ∧ DGet H a y (some v) ∧ Q v H
section
variable {X : Cx} {wx : WX} {w : Wd}
theorem ix_dct (hu : X.A.units + 1 < cLine) : IxR X rIxDct := by
  intro value slice pins s σ H x y v u Q I rx ry h hs
  obtain ⟨a, vv, rfl, g, q⟩ := h
  obtain rfl : v = Value.ref a := rx
  exact PyProof.Rows.tail_any (dict_typeIs I g) PySem.F.slot_dict_getitem.lookup (d_getItem hu I g ry fun w' s3 I3 rw' => ⟨vv, H, I3, rw', q⟩) hs
theorem atD_ok {r : Rp} {ds : List D} {xs : List V} {i : Int} {d : D} (t : VxL r ds xs) (e : atD ds i = some d) : ∃ v, atI xs i = some v ∧ Vx r d v := by
  obtain ⟨j, h1, h2⟩ := Option.bind_eq_some_iff.mp e
  obtain ⟨v, h3, h4⟩ := t.get h2
  exact ⟨v, Option.bind_eq_some_iff.mpr ⟨j, by rw [t.length]; exact h1, h3⟩, h4⟩
def rIxA (K : PySem.W.Frag) : R2 := fun x y H Q => rIx K x y H Q ∨ rIxDct x y H Q
theorem bin_ix : Bin X (rIxA X.K) ixF := by
  intro w d e x y o k Q ok hx hy ef hr
  unfold ixF at ef
  split at ef
  · obtain ⟨d', h1, h2⟩ := map_some' ef
    cases h2
    obtain ⟨a, xs, rfl, ha, t⟩ := hx
    obtain ⟨v, h3, h4⟩ := atD_ok t h1
    exact .inl (.inl ⟨a, xs, _, v, rfl, hy, .inl (.inl ha), h3, hr.here ok ⟨h4, rfl⟩⟩)
  · obtain ⟨d', h1, h2⟩ := map_some' ef
    cases h2
    obtain ⟨a, xs, rfl, ha, t⟩ := hx
    obtain ⟨v, h3, h4⟩ := atD_ok t h1
    exact .inl (.inr (.inl ⟨a, xs, _, v, rfl, hy, SqT.of (ok _ _ ha), h3, hr.here ok ⟨h4, rfl⟩⟩))
  · obtain ⟨d', h1, h2⟩ := map_some' ef
    cases h2
    obtain ⟨a, xs, rfl, ha, t⟩ := hx
    obtain ⟨v, h3, h4⟩ := atD_ok t h1
    exact .inl (.inl ⟨a, xs, _, v, rfl, hy, SqL.up (fun o e => ok _ o e) ha, h3, hr.here ok ⟨h4, rfl⟩⟩)
  · split at ef
    · rename_i hz
      obtain ⟨c, h1, h2⟩ := map_some' ef
      cases h2
      exact .inl (.inr (.inr ⟨_, _, c, hx, hy, cap_line hz, h1, hr.here ok ⟨rfl, rfl⟩⟩))
    · cases ef
  · obtain ⟨key, h1, h2⟩ := Option.bind_eq_some_iff.mp ef
    obtain ⟨d', h3, h4⟩ := map_some' h2
    cases h4
    obtain ⟨a, kv, rfl, ha, t⟩ := hx
    have ey : y = kV key := by
      cases e <;> first | (cases h1; exact hy) | cases h1
    rcases VxD.get key t with ⟨g1, g2⟩ | ⟨d2, v2, g1, g2, g3⟩
    · rw [g1] at h3
      cases h3
    · rw [g1] at h3
      cases h3
      exact .inr ⟨a, v2, rfl, .inl ⟨kv, key, ha, ey, g2.symm⟩, hr.here ok ⟨g3, rfl⟩⟩
  · cases ef
theorem ce_ix {a b : Expr} {ma mb : M Op} {pos : Pos} (hu : X.A.units + 1 < cLine) (ha : CE X wx a ma) (hb : CE X wx b mb) (hs : PlainIx b := by intro _ _; rfl) : CE X wx (.Subscript a b pos) (bin ixF ma mb) := by
  refine ⟨fun s0 s st w fp Q R hp => ⟨_, pe_ix (ix_seq.or (ix_dct hu)) pe_W pe_W hs, ?_⟩⟩
  refine two (Kk := fun u v H => rIxA X.K u v H Q) ha hb R hp fun x y s2 u v w2 f1 f2 fp2 R2 r1 r2 n2 S2 hp2 => ?_
  obtain ⟨d, i1, hp2⟩ := flat_go hp2 R2 r1
  obtain ⟨e, i2, hp2⟩ := flat_go hp2 R2 r2
  obtain ⟨⟨o, k⟩, ef, hp2⟩ := opt_go hp2
  exact bin_ix w2 d e u v o k Q R2.ok i1 i2 ef (res_end (g := f1 ++ f2) hp2 R2 (by rw [List.append_assoc]; exact S2))
end

/-! ### slices -/
def cutD (ds : List D) (lo hi : Option Int) : List D := (ds.drop (HT.sIx ds.length 0 lo)).take (HT.sIx ds.length ds.length hi - HT.sIx ds.length 0 lo)
def slF : D → Option Int → Option Int → Option (D × Nat)
  | .lst ds, lo, hi => some (.lst (cutD ds lo hi), 1)
  | .tup ds, lo, hi => some (.tup (cutD ds lo hi), 0)
  | .scr ds, lo, hi => some (.lst (cutD ds lo hi), 1)
  | .str z, lo, hi => if z.length ≤ cap then some (.str (cutS z lo hi), 0) else none
  | _, _, _ => none
def ROp : St → Option Int → Option Int → Wd → List Addr → Prop := fun _ a b _ fo => a = b ∧ fo = []
def WO (X : Cx) (e : Option Expr) : St → Hp → (Option Int → Hp → Prop) → Prop := fun st H Q => ∃ t, PO X e t ∧ t st H Q
abbrev CO (X : Cx) (wx : WX) (e : Option Expr) (m : M (Option Int)) : Prop := CJ X wx (WO X e) ROp m
def prtM (m : M Op) : M (Option Int) := bnd m fun o => bnd (flat o) fun d => match d with
  | .int i => ret (some i)
  | _ => stuck
def slM (m : M Op) (lo hi : M (Option Int)) : M Op := bnd m fun o => bnd lo fun l => bnd hi fun h => bnd (flat o) fun d => bnd (opt (slF d l h)) fun r => ret (.val r.1 r.2)
section
variable {X : Cx} {wx : WX}
theorem po_W {e : Option Expr} : PO X e (WO X e) := ⟨fun pins s st H Q I ⟨_, h, q⟩ => h.run pins s st H Q I q⟩
theorem co_none : CO X wx none (ret none) := ⟨fun s0 s st w fp Q R hp => ⟨_, po_none, hp none w [] fp R ⟨rfl, rfl⟩ R.nd (Stp.refl R.ok)⟩⟩
theorem co_some {e : Expr} {m : M Op} (he : CE X wx e m) : CO X wx (some e) (prtM m) := by
  refine ⟨fun s0 s st w fp Q R hp => ⟨_, po_some pe_W, ?_⟩⟩
  refine he.go R (Stp.refl R.ok) hp fun o s1 v w1 f1 fp1 R1 r1 n1 S1 hp1 => ?_
  obtain ⟨d, iv, hp2⟩ := flat_go hp1 R1 r1
  split at hp2
  · rename_i i
    exact ⟨i, iv, hp2 (some i) w1 [] fp1 R1 ⟨rfl, rfl⟩ R1.nd S1.dropL⟩
  · exact hp2.elim
def rSlAll (K : PySem.W.Frag) : V → Option Int → Option Int → Hp → VK → Prop := fun x lo hi H Q => rSlL K x lo hi H Q ∨ (rSlA K x lo hi H Q ∨ rSlS x lo hi H Q)
theorem cut_vx {r : Rp} {ds : List D} {xs : List V} (t : VxL r ds xs) (lo hi : Option Int) : VxL r (cutD ds lo hi) (cutV xs lo hi) := by
  unfold cutD cutV
  rw [t.length]
  exact (t.drop _).take _
theorem cut_all {ds : List D} {lo hi : Option Int} (h1 : HT.sIx ds.length 0 lo = 0) (h2 : HT.sIx ds.length ds.length hi = ds.length) : cutD ds lo hi = ds := by
  unfold cutD
  rw [h1, h2, List.drop_zero, Nat.sub_zero, List.take_length]
theorem ce_sl {e : Expr} {lo hi : Option Expr} {m : M Op} {ml mh : M (Option Int)} {p2 pos : Pos} (he : CE X wx e m) (hl : CO X wx lo ml) (hh : CO X wx hi mh) : CE X wx (.Subscript e (.Slice lo hi none p2) pos) (slM m ml mh) := by
  refine ⟨fun s0 s st w fp Q R hp => ⟨_, pe_slice (sl_list.or (sl_tupA.or sl_str)) pe_W po_W po_W, ?_⟩⟩
  refine he.go R (Stp.refl R.ok) hp fun o s1 v w1 f1 fp1 R1 r1 n1 S1 hp1 => ?_
  refine hl.go R1 S1.dropL hp1 fun l s2 l' w2 f2 fp2 R2 r2 n2 S2 hp2 => ?_
  obtain ⟨rfl, rfl⟩ := r2
  have r1' : OpR X.K st w2 o v f1 := OpR.stp r1 S2 (nd_dis n1)
  refine hh.go R2 (S1.dropL.trans S2) hp2 fun h s3 h' w3 f3 fp3 R3 r3 n3 S3 hp3 => ?_
  obtain ⟨rfl, rfl⟩ := r3
  have hd2 : ∀ x ∈ f1, x ∉ fp2 := fun x hx hy => by
    rcases S2.nw x hy with m | m
    · exact nd_dis n1 x hx m
    · exact (OpR.dom r1 x hx).1 m
  have r1'' : OpR X.K st w3 o v f1 := OpR.stp r1' S3 hd2
  obtain ⟨d, iv, hp4⟩ := flat_go hp3 R3 r1''
  obtain ⟨⟨res, k⟩, ef, hp5⟩ := opt_go hp4
  have fin : Res X.K w3 res k Q := res_end (g := []) hp5 R3 ((S1.dropL.trans S2).trans S3)
  show rSlL X.K v l h w3.H Q ∨ (rSlA X.K v l h w3.H Q ∨ rSlS v l h w3.H Q)
  unfold slF at ef
  split at ef
  · cases ef
    obtain ⟨a, xs, rfl, ha, t⟩ := iv
    exact .inl ⟨a, xs, rfl, .inl (.inl ha), fun p hp => fin.lst R3.ok (cut_vx t l h) hp⟩
  · cases ef
    obtain ⟨a, xs, rfl, ha, t⟩ := iv
    refine .inr (.inl ⟨a, xs, rfl, SqT.of (R3.ok _ _ ha), fun hw => ?_, fun hw p hp => fin.tup R3.ok (cut_vx t l h) hp⟩)
    rw [t.length] at hw
    rw [cut_all hw.1 hw.2] at fin
    exact fin.here R3.ok ⟨⟨a, xs, rfl, ha, t⟩, rfl⟩
  · cases ef
    obtain ⟨a, xs, rfl, ha, t⟩ := iv
    exact .inl ⟨a, xs, rfl, SqL.up (fun o e => R3.ok _ o e) ha, fun p hp => fin.lst R3.ok (cut_vx t l h) hp⟩
  · split at ef
    · rename_i hz
      cases ef
      exact .inr (.inr ⟨_, iv, cap_line hz, fin.str R3.ok⟩)
    · cases ef
  · cases ef
end

/-! ### methods of a text -/
def smM (f : Str → List D → Option (D × Nat)) (m : M Op) (ms : M (List Op)) : M Op := bnd m fun o => bnd (flat o) fun d => match d with
  | .str z => bnd ms fun os => bnd (flats os) fun ds => bnd (opt (f z ds)) fun r => ret (.val r.1 r.2)
  | _ => stuck
def SMt (X : Cx) (r : V → List V → Hp → VK → Prop) (f : Str → List D → Option (D × Nat)) : Prop := ∀ (w : Wd) (z : Str) (ds : List D) (vs : List V) (o : D) (k : Nat) (Q : VK), w.Ok → ItVs X.K w ds vs → f z ds = some (o, k) → Res X.K w o k Q → r (.str z) vs w.H Q
def joinF (z : Str) : List D → Option (D × Nat)
  | [.lst ds] => (strsOf ds).bind fun ss => if (ss.map (·.length)).sum + ss.length * z.length ≤ 16777216 then some (.str (Txt.join z ss), 0) else none
  | _ => none
def sindexF (z : Str) : List D → Option (D × Nat)
  | [.str b] => match Builtin.Str.occurrences z b 0 z.length 1 with
    | i :: _ => some (.int (i : Nat), 0)
    | [] => none
  | _ => none
section
variable {X : Cx} {wx : WX}
theorem smt_join : SMt X (fun x xs H Q => ∃ a p, ∃ ys : List Str, x = .str a ∧ xs = [.ref p] ∧ (SqL X.K H p (ys.map V.str) ∨ SqT X.K H p (ys.map V.str)) ∧
    (ys.map (·.length)).sum + ys.length * a.length ≤ 16777216 ∧ Q (.str (Txt.join a ys)) H) joinF := by
  intro w z ds vs o k Q ok iv ef hr
  unfold joinF at ef
  split at ef
  · obtain ⟨ss, h1, h2⟩ := Option.bind_eq_some_iff.mp ef
    split at h2
    · rename_i hz
      cases h2
      obtain ⟨v, rfl, a, xs, rfl, ha, t⟩ := itvs1 iv
      rw [strsOf_ok t h1] at ha
      exact ⟨z, a, ss, rfl, rfl, .inl (.inl (.inl ha)), hz, hr.str ok⟩
    · cases h2
  · cases ef
theorem smt_index : SMt X (fun x xs H Q => ∃ a b i rest, x = .str a ∧ xs = [.str b] ∧ Builtin.Str.occurrences a b 0 a.length 1 = i :: rest ∧ Q (.int (i : Nat)) H) sindexF := by
  intro w z ds vs o k Q ok iv ef hr
  unfold sindexF at ef
  split at ef
  · split at ef
    · rename_i e
      cases ef
      obtain ⟨v, rfl, rfl⟩ := itvs1 iv
      exact ⟨z, _, _, _, rfl, rfl, e, hr.int ok⟩
    · cases ef
  · cases ef
theorem ce_sm {o e : Expr} {es : List Expr} {m : M Op} {ms : M (List Op)} {name : Str} {id : String} {apos cpos : Pos} {r : V → List V → Hp → VK → Prop} {f : Str → List D → Option (D × Nat)} (slot : PySem.Slot "str" name id) (hty : typeOf (.builtin id) = pure (.type "method_descriptor")) (hm : MtR X id r) (hf : SMt X r f)
    (ho : CE X wx o m) (ha : CA X wx (e :: es) ms) (hbase : attributeBase o name X.env (eval o X.env) = eval o X.env := by rfl)
    (hfew : ((backTo cpos (starEach (e :: es) X.env)).all (fun x => !x.1) && (backToKw cpos (keywordEach [] X.env)).all (fun x => x.1.isSome)
      && decide ((e :: es).length + ([] : List Keyword).length + (if ([] : List Keyword).isEmpty then 0 else 1) < 30)) = true := by rfl)
    (hline : (apos.endLine == cpos.line) = true := by rfl) (hs : starEach (e :: es) X.env = (false, eval e X.env) :: starEach es X.env := by rfl) (hplain : (backTo cpos (starEach es X.env)).any (·.1) = false := by rfl) :
    CE X wx (.Call (.Attribute o name apos) (e :: es) [] cpos) (smM f m ms) := by
  refine ⟨fun s0 s st w fp Q R hp => ⟨_, pe_bm (T := "str") F.plainAttrs_str slot hty hm pe_W pa_W hbase hfew hline hs hplain, ?_⟩⟩
  refine ho.go R (Stp.refl R.ok) hp fun o s1 v w1 f1 fp1 R1 r1 n1 S1 hp1 => ?_
  obtain ⟨d, iv, hp2⟩ := flat_go hp1 R1 r1
  split at hp2
  · rename_i z
    obtain rfl : v = .str z := iv
    refine ⟨rfl, ?_⟩
    refine ha.go R1 S1.dropL hp2 fun os s2 vs w2 f2 fp2 R2 r2 n2 S2 hp3 => ?_
    obtain ⟨ds, ivs, hp4⟩ := flats_go hp3 R2 r2
    obtain ⟨⟨res, k⟩, ef, hp5⟩ := opt_go hp4
    exact hf w2 z ds vs res k Q R2.ok ivs ef (res_end (g := f2) hp5 R2 (S1.dropL.trans S2))
  · exact hp2.elim
end

/-! ### methods of a list: the slot's list is read and written -/
def lmM (f : List D → List D → Option (List D × D)) (m : M Op) (ms : M (List Op)) : M Op := bnd m fun o => match o with
  | .slot i => bnd (flat (.slot i)) fun d => match d with
    | .lst _ => bnd ms fun os => bnd (fzos os) fun es s => match s.r[i]? with
      | some (some ⟨.lst ds, 1, p⟩) => match f ds es with
        | some (ds', r) => .ok (.val r 0) { s with r := s.r.set i (some ⟨.lst ds', 1, p⟩) }
        | none => .no
      | _ => .no
    | _ => stuck
  | _ => stuck
def LMt (X : Cx) (r : V → List V → Hp → VK → Prop) (f : List D → List D → Option (List D × D)) : Prop := ∀ (q : Rp) (H : Hp) (l : Addr) (xs vs : List V) (ds es ds' : List D) (rd : D) (Q : VK), H l = some (.lst xs) → VxL q ds xs → VxL q es vs → f ds es = some (ds', rd) →
  (∀ xs' rv, VxL q ds' xs' → Vx q rd rv → Q rv (upd H l (.lst xs'))) → r (.ref l) vs H Q
def appendF : List D → List D → Option (List D × D)
  | ds, [d] => if ds.length < cap then some (ds ++ [d], .non) else none
  | _, _ => none
def popF : List D → List D → Option (List D × D)
  | ds, [] => (ds[ds.length - 1]?).map fun d => (ds.dropLast, d)
  | ds, [.int i] => if in62 i then (seqIndex? i ds.length).bind fun k => (ds[k]?).map fun d => (ds.eraseIdx k, d) else none
  | _, _ => none
def revF : List D → List D → Option (List D × D)
  | ds, [] => some (ds.reverse, .non)
  | _, _ => none
def clearF : List D → List D → Option (List D × D)
  | _, [] => some ([], .non)
  | _, _ => none
section
variable {X : Cx} {wx : WX} {q : Rp}
theorem VxL.erase : ∀ {ds : List D} {vs : List V} (k : Nat), VxL q ds vs → VxL q (ds.eraseIdx k) (vs.eraseIdx k)
  | [], vs, k, h => by
    rw [show vs = [] from h]
    rfl
  | d :: ds, vs, 0, ⟨v, t, e, h, g⟩ => by
    rw [e]
    exact g
  | d :: ds, vs, k + 1, ⟨v, t, e, h, g⟩ => ⟨v, t.eraseIdx k, by rw [e] <;> rfl, h, VxL.erase k g⟩
theorem VxL.dropLast' {ds : List D} {vs : List V} (h : VxL q ds vs) : VxL q ds.dropLast vs.dropLast := by
  rw [List.dropLast_eq_take, List.dropLast_eq_take, h.length]
  exact h.take _
theorem VxL.rev : ∀ {ds : List D} {vs : List V}, VxL q ds vs → VxL q ds.reverse vs.reverse
  | [], vs, h => by
    rw [show vs = [] from h]
    rfl
  | d :: ds, vs, ⟨v, t, e, h, g⟩ => by
    rw [e, List.reverse_cons, List.reverse_cons]
    exact VxL.append (VxL.rev g) ⟨v, [], rfl, h, rfl⟩
theorem VxL.setv : ∀ {ds : List D} {vs : List V} {d : D} {v : V} (k : Nat), VxL q ds vs → Vx q d v → VxL q (ds.set k d) (vs.set k v)
  | [], vs, d, v, k, h, _ => by
    rw [show vs = [] from h]
    rfl
  | d0 :: ds, vs, d, v, 0, ⟨v0, t, e, h, g⟩, hv => ⟨v, t, by rw [e] <;> rfl, hv, g⟩
  | d0 :: ds, vs, d, v, k + 1, ⟨v0, t, e, h, g⟩, hv => ⟨v0, t.set k v, by rw [e] <;> rfl, h, VxL.setv k g hv⟩
theorem vxl1 {d : D} {vs : List V} (h : VxL q [d] vs) : ∃ v, vs = [v] ∧ Vx q d v := by
  obtain ⟨v, t, e, h1, h2⟩ := h
  exact ⟨v, by rw [e, show t = [] from h2], h1⟩
theorem lmt_append : LMt X rAppend appendF := by
  intro q H l xs vs ds es ds' rd Q hH hx hv e k
  unfold appendF at e
  split at e
  · split at e
    · rename_i hz
      cases e
      obtain ⟨v, rfl, vx⟩ := vxl1 hv
      exact ⟨l, xs, v, rfl, rfl, hH, by rw [hx.length]; exact cap_lt hz, k _ _ (VxL.append hx ⟨v, [], rfl, vx, rfl⟩) rfl⟩
    · cases e
  · cases e
theorem lmt_pop : LMt X (fun x xs H Q => rPop x xs H Q ∨ rPopAt x xs H Q) popF := by
  intro q H l xs vs ds es ds' rd Q hH hx hv e k
  unfold popF at e
  split at e
  · obtain ⟨d, h1, h2⟩ := map_some' e
    cases h2
    obtain ⟨v, h3, h4⟩ := hx.get h1
    rw [show vs = [] from hv]
    exact .inl ⟨l, xs, v, rfl, rfl, hH, by rw [hx.length]; exact h3, k _ _ hx.dropLast' h4⟩
  · split at e
    · rename_i hi
      obtain ⟨j, h1, h2⟩ := Option.bind_eq_some_iff.mp e
      obtain ⟨d, h3, h4⟩ := map_some' h2
      cases h4
      obtain ⟨v, h5, h6⟩ := hx.get h3
      obtain ⟨v', rfl, rfl⟩ := vxl1 hv
      obtain ⟨b1, b2⟩ := in62_ok hi
      exact .inr ⟨l, xs, _, j, v, rfl, rfl, hH, by omega, by omega, by rw [hx.length]; exact h1, h5, k _ _ (hx.erase j) h6⟩
    · cases e
  · cases e
theorem lmt_rev : LMt X rReverse revF := by
  intro q H l xs vs ds es ds' rd Q hH hx hv e k
  unfold revF at e
  split at e
  · cases e
    rw [show vs = [] from hv]
    exact ⟨l, xs, rfl, rfl, hH, k _ _ hx.rev rfl⟩
  · cases e
theorem lmt_clear : LMt X rClear clearF := by
  intro q H l xs vs ds es ds' rd Q hH hx hv e k
  unfold clearF at e
  split at e
  · cases e
    rw [show vs = [] from hv]
    exact ⟨l, xs, rfl, rfl, hH, k _ _ rfl rfl⟩
  · cases e
theorem rel_at {K : PySem.W.Frag} {s0 st : St} {s : Sx} {w : Wd} {fp : List Addr} {i : Nat} {sl : Slot} {v : V} (R : Rel K s0 s st w fp) (e : s.r[i]? = some (some sl)) (h1 : st[i]? = some (some v)) :
    ∃ f, (∀ x ∈ f, x ∈ fp) ∧ Ow K w sl.k sl.d v f ∧ ∀ (w' : Wd) (sl' : Slot) (f' : List Addr), w'.Ok → w'.N = w.N → (w.fz K).Le (w'.fz K) → (∀ x ∈ fp, x ∉ f → ∀ o, w.H x = some o → w.F x = none → w'.H x = some o ∧ w'.F x = none) →
      Ow K w' sl'.k sl'.d v f' → (∀ x ∈ f', x ∈ f) → f'.Nodup → sl'.pin = sl.pin → ∃ fp', Rel K s0 { s with r := s.r.set i (some sl') } st w' fp' ∧ ∀ x ∈ fp', x ∈ f' ∨ (x ∈ fp ∧ x ∉ f) := by
  obtain ⟨fe, fs, ef, q1, q2⟩ := R.parts
  obtain ⟨b, f1, f, f2, hb, hf, hpp, hset⟩ := q1.at e
  rw [h1] at hb
  cases hb
  have nd := R.nd
  rw [ef, hf] at nd
  refine ⟨f, fun x m => by rw [ef, hf]; simp [m], hpp, fun w' sl' f' ok hN L kp ow hsub hnd hpin => ?_⟩
  have est : st.set i (some v) = st := by
    apply List.ext_getElem?
    intro j
    by_cases hj : j = i
    · subst hj
      rw [List.getElem?_set_self (List.getElem?_eq_some_iff.mp h1).1, h1]
    · rw [List.getElem?_set_ne (Ne.symm hj)]
  have hne : ∀ x ∈ f1 ++ [] ++ f2 ++ fs, x ∉ f := fun x hx hx' => by
    simp only [List.append_nil, List.nodup_append, List.mem_append] at nd hx
    grind
  have hin : ∀ x ∈ f1 ++ [] ++ f2 ++ fs, x ∈ fp := fun x hx => by
    rw [ef, hf]
    simp only [List.append_nil, List.mem_append] at hx ⊢
    grind
  have q0 := hset none (some v) [] rfl
  rw [est] at q0
  have q4 : All3 (SlR K w') (s.r.set i none) st (f1 ++ [] ++ f2) := All3.imp (fun a' b' g _ hg q => q.keep L fun x hx => kp x (hin x (List.mem_append_left _ (hg x hx))) (hne x (List.mem_append_left _ (hg x hx)))) q0
  have hil : i < s.r.length := (List.getElem?_eq_some_iff.mp e).1
  obtain ⟨b', g1, g, g2, hb', hg, hp2, hset2⟩ := q4.at (i := i) (a := none) (List.getElem?_set_self hil)
  have eg : g = [] := hp2
  subst eg
  have q5 := hset2 (some sl') (some v) f' ow
  rw [List.set_set, est] at q5
  have hcut : ∀ x, x ∈ g1 ++ [] ++ g2 ↔ x ∈ f1 ++ [] ++ f2 := fun x => by rw [← hg]
  have hcn : (g1 ++ [] ++ g2).Nodup := by
    rw [← hg]
    simp only [List.append_nil, List.nodup_append, List.mem_append] at nd ⊢
    grind
  refine ⟨g1 ++ f' ++ g2 ++ fs, ⟨ok, hN.trans R.N, ⟨_, fs, rfl, q5, q2.keep L (by have := R.N; show 0 + s.S.length ≤ w.N; omega) fun x hx => kp x (hin x (List.mem_append_right _ hx)) (hne x (List.mem_append_right _ hx))⟩, ?_, fun j sl2 hj hpj => ?_⟩, fun x m => ?_⟩
  · have hcut' := hcut
    simp only [List.append_nil, List.nodup_append, List.mem_append] at nd hcn hcut' ⊢
    grind
  · by_cases hji : j = i
    · subst hji
      have hj' : (s.r.set j (some sl'))[j]? = some (some sl2) := hj
      rw [List.getElem?_set_self hil] at hj'
      cases hj'
      exact R.pin j _ e (hpin ▸ hpj)
    · have hj' : (s.r.set i (some sl'))[j]? = some (some sl2) := hj
      rw [List.getElem?_set_ne (Ne.symm hji)] at hj'
      exact R.pin j sl2 hj' hpj
  · have m' : x ∈ f' ∨ x ∈ f1 ++ [] ++ f2 ++ fs := by
      have hcut' := hcut x
      simp only [List.append_nil, List.mem_append] at m hcut' ⊢
      grind
    exact m'.imp id fun q => ⟨hin x q, hne x q⟩
end
end Mi

set_option Elab.async false
set_option linter.all false
set_option maxRecDepth 100000
set_option maxHeartbeats 4000000
namespace Mi
open PySem L2

section
variable {X : Cx} {wx : WX} {s0 st : St} {s s' : Sx} {w w0 w1 : Wd} {fp fp0 fp1 fo g : List Addr} {E : Ends}
/-- a list at a slot is written -/
theorem rel_lst {K : PySem.W.Frag} {i : Nat} {ds ds' : List D} {p : Bool} {a : Addr} {xs' : List V} (R : Rel K s0 s st w fp) (e : s.r[i]? = some (some ⟨.lst ds, 1, p⟩)) (h1 : st[i]? = some (some (.ref a))) (t : VxL (w.fz K) ds' xs') :
    (∃ xs, w.H a = some (.lst xs) ∧ VxL (w.fz K) ds xs) ∧ ∃ fp', Rel K s0 { s with r := s.r.set i (some ⟨.lst ds', 1, p⟩) } st (w.put a (.lst xs')) fp' ∧ (∀ x ∈ fp', x ∈ fp) ∧ Stp w fp (w.put a (.lst xs')) fp ∧ a ∈ fp := by
  obtain ⟨f, hf, ow, k⟩ := rel_at R e h1
  obtain ⟨xs, h2, h3, h4, h5⟩ := ow1_inv ow
  subst h4
  have ha : a ∈ fp := hf a (List.mem_singleton_self _)
  have S := put_stp (o := .lst xs') R.ok ha h3
  obtain ⟨fp', R', sub⟩ := k (w.put a (.lst xs')) ⟨.lst ds', 1, p⟩ [a] S.ok rfl S.fz (fun x _ hn o ho hF => ⟨(upd_ne (fun z => hn (by rw [z]; exact List.mem_singleton_self _))).trans ho, hF⟩) (ow1 upd_same h3 t) (fun x m => m) (by simp) rfl
  refine ⟨⟨xs, h2, h5⟩, fp', R', fun x m => ?_, S, ha⟩
  rcases sub x m with m | m
  · rw [List.mem_singleton.mp m]
    exact ha
  · exact m.1
theorem lm_read {o : Expr} {JA : TA} {m : M Op} {ms : M (List Op)} {r : V → List V → Hp → VK → Prop} {f : List D → List D → Option (List D × D)} {Q : VK} (hf : LMt X r f) (ho : CE X wx o m) (ha : CJ X wx JA (RA X.K) ms) (R : Rel X.K s0 s st w fp)
    (hp : Post X wx (RE X.K st) s0 st w fp (lmM f m ms s) Q) : W X o st w.H fun x H1 => tyV X.K "list" x H1 ∧ JA st H1 fun xs H2 => r x xs H2 Q := by
  refine ho.go R (Stp.refl R.ok) hp fun o s1 v w1 f1 fp1 R1 r1 n1 S1 hp1 => ?_
  cases o with
  | val d k => exact hp1.elim
  | slot i =>
    obtain ⟨d, iv, hp2⟩ := flat_go hp1 R1 r1
    split at hp2
    · rename_i ds0
      obtain ⟨a, xs0, rfl, h0, t0⟩ := iv
      obtain ⟨hs1, rfl⟩ := r1
      refine ⟨.inl ⟨rfl, xs0, .inl (.inl h0)⟩, ?_⟩
      refine ha.go R1 S1 hp2 fun os s2 vs w2 f2 fp2 R2 r2 n2 S2 hp3 => ?_
      obtain ⟨es', s3, w3, fp3, R3, vx, S3, eH, eN, sub3, hp4⟩ := fzos_go hp3 R2 r2 n2
      split at hp4
      · rename_i ds p e
        split at hp4
        · rename_i ds' rd ef
          rw [← eH]
          obtain ⟨⟨xs, h2, h3⟩, _⟩ := rel_lst (ds' := []) (xs' := []) R3 e hs1 rfl
          refine hf (w3.fz X.K) w3.H a xs vs ds es' ds' rd Q h2 h3 vx ef fun xs' rv t' vr => ?_
          obtain ⟨_, fp4, R4, sub4, S4, _⟩ := rel_lst (ds' := ds') (xs' := xs') R3 e hs1 t'
          exact hp4 rv (w3.put a (.lst xs')) [] fp4 R4 ⟨Vx.mono S4.fz _ _ vr, rfl⟩ R4.nd ((((S1.trans S2).trans S3).trans S4).sub sub4)
        · exact hp4.elim
      · exact hp4.elim
    · exact hp2.elim
theorem ce_lm {o e : Expr} {es : List Expr} {m : M Op} {ms : M (List Op)} {name : Str} {id : String} {apos cpos : Pos} {r : V → List V → Hp → VK → Prop} {f : List D → List D → Option (List D × D)} (slot : PySem.Slot "list" name id) (hty : typeOf (.builtin id) = pure (.type "method_descriptor")) (hm : MtR X id r) (hf : LMt X r f)
    (ho : CE X wx o m) (ha : CA X wx (e :: es) ms) (hbase : attributeBase o name X.env (eval o X.env) = eval o X.env := by rfl)
    (hfew : ((backTo cpos (starEach (e :: es) X.env)).all (fun x => !x.1) && (backToKw cpos (keywordEach [] X.env)).all (fun x => x.1.isSome)
      && decide ((e :: es).length + ([] : List Keyword).length + (if ([] : List Keyword).isEmpty then 0 else 1) < 30)) = true := by rfl)
    (hline : (apos.endLine == cpos.line) = true := by rfl) (hs : starEach (e :: es) X.env = (false, eval e X.env) :: starEach es X.env := by rfl) (hplain : (backTo cpos (starEach es X.env)).any (·.1) = false := by rfl) :
    CE X wx (.Call (.Attribute o name apos) (e :: es) [] cpos) (lmM f m ms) :=
  ⟨fun s0 s st w fp Q R hp => ⟨_, pe_bm (T := "list") F.plainAttrs_list slot hty hm pe_W pa_W hbase hfew hline hs hplain, lm_read hf ho ha R hp⟩⟩
theorem ce_lm0 {o : Expr} {m : M Op} {name : Str} {id : String} {apos cpos : Pos} {r : V → List V → Hp → VK → Prop} {f : List D → List D → Option (List D × D)} (slot : PySem.Slot "list" name id) (hty : typeOf (.builtin id) = pure (.type "method_descriptor")) (hm : MtR X id r) (hf : LMt X r f)
    (ho : CE X wx o m) (hbase : attributeBase o name X.env (eval o X.env) = eval o X.env := by rfl) (hline : (apos.endLine == cpos.line) = true := by rfl) :
    CE X wx (.Call (.Attribute o name apos) [] [] cpos) (lmM f m evN) :=
  ⟨fun s0 s st w fp Q R hp => ⟨_, pe_bm0 (T := "list") F.plainAttrs_list slot hty hm pe_W hbase hline, lm_read (JA := tNil) (ms := evN) hf ho ⟨fun s0 s st w fp Q R hp => hp [] w [] fp R rfl R.nd (Stp.refl R.ok)⟩ R hp⟩⟩
theorem ce_append {o e : Expr} {m : M Op} {ms : M (List Op)} {apos cpos : Pos} (ho : CE X wx o m) (ha : CA X wx [e] ms) (hbase : attributeBase o "append" X.env (eval o X.env) = eval o X.env := by rfl)
    (hfew : ((backTo cpos (starEach [e] X.env)).all (fun x => !x.1) && (backToKw cpos (keywordEach [] X.env)).all (fun x => x.1.isSome)
      && decide (([e] : List Expr).length + ([] : List Keyword).length + (if ([] : List Keyword).isEmpty then 0 else 1) < 30)) = true := by rfl)
    (hline : (apos.endLine == cpos.line) = true := by rfl) (hs : starEach [e] X.env = (false, eval e X.env) :: starEach [] X.env := by rfl) : CE X wx (.Call (.Attribute o "append" apos) [e] [] cpos) (lmM appendF m ms) :=
  ce_lm F.slot_list_append F.type_list_append mt_append lmt_append ho ha hbase hfew hline hs rfl
theorem ce_popAt {o e : Expr} {m : M Op} {ms : M (List Op)} {apos cpos : Pos} (ho : CE X wx o m) (ha : CA X wx [e] ms) (hbase : attributeBase o "pop" X.env (eval o X.env) = eval o X.env := by rfl)
    (hfew : ((backTo cpos (starEach [e] X.env)).all (fun x => !x.1) && (backToKw cpos (keywordEach [] X.env)).all (fun x => x.1.isSome)
      && decide (([e] : List Expr).length + ([] : List Keyword).length + (if ([] : List Keyword).isEmpty then 0 else 1) < 30)) = true := by rfl)
    (hline : (apos.endLine == cpos.line) = true := by rfl) (hs : starEach [e] X.env = (false, eval e X.env) :: starEach [] X.env := by rfl) : CE X wx (.Call (.Attribute o "pop" apos) [e] [] cpos) (lmM popF m ms) :=
  ce_lm F.slot_list_pop F.type_list_pop (MtR.or mt_pop mt_popAt) lmt_pop ho ha hbase hfew hline hs rfl
theorem ce_pop0 {o : Expr} {m : M Op} {apos cpos : Pos} (ho : CE X wx o m) (hbase : attributeBase o "pop" X.env (eval o X.env) = eval o X.env := by rfl) (hline : (apos.endLine == cpos.line) = true := by rfl) : CE X wx (.Call (.Attribute o "pop" apos) [] [] cpos) (lmM popF m evN) :=
  ce_lm0 F.slot_list_pop F.type_list_pop (MtR.or mt_pop mt_popAt) lmt_pop ho hbase hline
theorem ce_join {o e : Expr} {m : M Op} {ms : M (List Op)} {apos cpos : Pos} (ho : CE X wx o m) (ha : CA X wx [e] ms) (hbase : attributeBase o "join" X.env (eval o X.env) = eval o X.env := by rfl)
    (hfew : ((backTo cpos (starEach [e] X.env)).all (fun x => !x.1) && (backToKw cpos (keywordEach [] X.env)).all (fun x => x.1.isSome)
      && decide (([e] : List Expr).length + ([] : List Keyword).length + (if ([] : List Keyword).isEmpty then 0 else 1) < 30)) = true := by rfl)
    (hline : (apos.endLine == cpos.line) = true := by rfl) (hs : starEach [e] X.env = (false, eval e X.env) :: starEach [] X.env := by rfl) : CE X wx (.Call (.Attribute o "join" apos) [e] [] cpos) (smM joinF m ms) :=
  ce_sm F.slot_str_join F.type_str_join mt_join smt_join ho ha hbase hfew hline hs rfl
theorem ce_sindex {o e : Expr} {m : M Op} {ms : M (List Op)} {apos cpos : Pos} (ho : CE X wx o m) (ha : CA X wx [e] ms) (hbase : attributeBase o "index" X.env (eval o X.env) = eval o X.env := by rfl)
    (hfew : ((backTo cpos (starEach [e] X.env)).all (fun x => !x.1) && (backToKw cpos (keywordEach [] X.env)).all (fun x => x.1.isSome)
      && decide (([e] : List Expr).length + ([] : List Keyword).length + (if ([] : List Keyword).isEmpty then 0 else 1) < 30)) = true := by rfl)
    (hline : (apos.endLine == cpos.line) = true := by rfl) (hs : starEach [e] X.env = (false, eval e X.env) :: starEach [] X.env := by rfl) : CE X wx (.Call (.Attribute o "index" apos) [e] [] cpos) (smM sindexF m ms) :=
  ce_sm F.slot_str_index F.type_str_index mt_sindex smt_index ho ha hbase hfew hline hs rfl
end

/-! ### x[i] = v -/
def setAt (o : Op) (key d : D) : M Unit := fun s => match o with
  | .slot i => match s.r[i]? with
    | some (some ⟨.lst ds, 1, p⟩) => match key with
      | .int k => match ixN ds.length k with
        | some j => .ok () { s with r := s.r.set i (some ⟨.lst (ds.set j d), 1, p⟩) }
        | none => .no
      | _ => .no
    | some (some ⟨.dct kvs, 1, p⟩) => match keyOf key with
      | some k => if kvs.length < cap then .ok () { s with r := s.r.set i (some ⟨.dct (putD kvs k d), 1, p⟩) } else .no
      | none => .no
    | _ => .no
  | _ => .no
def idxG (mo mi : M Op) : D → Nat → M Unit := fun d k s => noX ((if fzOk k d then bnd mo fun o => bnd mi fun y => bnd (flat y) fun key => setAt o key d else stuck) s)
section
variable {X : Cx} {wx : WX} {s0 st : St} {s s' : Sx} {w w0 w1 : Wd} {fp fp0 fp1 fo g : List Addr} {E : Ends}
theorem VxD.map' {q : Rp} {k : Key} {d : D} {v : V} (hv : Vx q d v) : ∀ {ds : List (Key × D)} {kv : List (Key × V)}, VxD q ds kv → VxD q (ds.map fun p => if p.1 = k then (p.1, d) else p) (kv.map fun p => if p.1 = k then (p.1, v) else p)
  | [], kv, h => by
    rw [show kv = [] from h]
    rfl
  | (k0, d0) :: ds, kv, ⟨v0, t, e, h, g⟩ => by
    rw [e, List.map_cons, List.map_cons]
    by_cases hk : k0 = k
    · rw [if_pos hk, if_pos hk]
      exact ⟨v, _, rfl, hv, VxD.map' hv g⟩
    · rw [if_neg hk, if_neg hk]
      exact ⟨v0, _, rfl, h, VxD.map' hv g⟩
theorem VxD.app {q : Rp} : ∀ {ds es : List (Key × D)} {kv ku : List (Key × V)}, VxD q ds kv → VxD q es ku → VxD q (ds ++ es) (kv ++ ku)
  | [], es, kv, ku, h, g => by
    rw [show kv = [] from h]
    exact g
  | (k0, d0) :: ds, es, kv, ku, ⟨v0, t, e, h, r⟩, g => ⟨v0, t ++ ku, by rw [e] <;> rfl, h, VxD.app r g⟩
theorem VxD.put {q : Rp} {k : Key} {d : D} {v : V} {ds : List (Key × D)} {kv : List (Key × V)} (h : VxD q ds kv) (hv : Vx q d v) : VxD q (putD ds k d) (putK kv k v) := by
  unfold putD putK
  rw [valV_any]
  rcases VxD.get k h with ⟨g1, g2⟩ | ⟨d', v', g1, g2, _⟩
  · rw [g1, g2]
    exact VxD.app h ⟨v, [], rfl, hv, rfl⟩
  · rw [g1, g2]
    exact VxD.map' hv h
theorem all3_0D {K : PySem.W.Frag} : ∀ {ds : List (Key × D)} {kv : List (Key × V)}, VxD (w.fz K) ds kv → All3 (fun (a : Key × D) (b : Key × V) f => a.1 = b.1 ∧ Ow K w 0 a.2 b.2 f) ds kv []
  | [], kv, t => by
    rw [show kv = [] from t]
    rfl
  | (k, d) :: ds, kv, t => by
    obtain ⟨v, r, e, h1, h2⟩ := t
    rw [e]
    exact ⟨[], [], rfl, ⟨rfl, h1, rfl⟩, all3_0D h2⟩
theorem owD {K : PySem.W.Frag} {p : Addr} {ds : List (Key × D)} {kv : List (Key × V)} (h : w.H p = some (.dK kv)) (n : w.F p = none) (t : VxD (w.fz K) ds kv) : Ow K w 1 (.dct ds) (.ref p) [p] := ⟨p, kv, [], rfl, h, n, rfl, all3_0D t⟩
theorem owD_inv {K : PySem.W.Frag} {p : Addr} {ds : List (Key × D)} {f : List Addr} (h : Ow K w 1 (.dct ds) (.ref p) f) : ∃ kv, w.H p = some (.dK kv) ∧ w.F p = none ∧ f = [p] ∧ VxD (w.fz K) ds kv := by
  obtain ⟨p', kv, g', e1, h1, n1, e2, t⟩ := h
  cases e1
  have hg : g' = [] := by
    have : ∀ {ds : List (Key × D)} {kv : List (Key × V)} {g : List Addr}, All3 (fun (a : Key × D) (b : Key × V) f => a.1 = b.1 ∧ Ow K w 0 a.2 b.2 f) ds kv g → g = [] := by
      intro ds
      induction ds with
      | nil =>
        intro kv g t
        cases kv with
        | nil => exact t
        | cons _ _ => exact t.elim
      | cons d ds ih =>
        intro kv g t
        cases kv with
        | nil => exact t.elim
        | cons x xs =>
          obtain ⟨f, g', e, h, t⟩ := t
          rw [e, h.2.2, ih t]
          rfl
    exact this t
  subst hg
  exact ⟨kv, h1, n1, e2, all0D t⟩
theorem rel_dct {K : PySem.W.Frag} {i : Nat} {ds ds' : List (Key × D)} {p : Bool} {a : Addr} {kv' : List (Key × V)} (R : Rel K s0 s st w fp) (e : s.r[i]? = some (some ⟨.dct ds, 1, p⟩)) (h1 : st[i]? = some (some (.ref a))) (t : VxD (w.fz K) ds' kv') :
    (∃ kv, w.H a = some (.dK kv) ∧ VxD (w.fz K) ds kv) ∧ ∃ fp', Rel K s0 { s with r := s.r.set i (some ⟨.dct ds', 1, p⟩) } st (w.put a (.dK kv')) fp' ∧ (∀ x ∈ fp', x ∈ fp) ∧ Stp w fp (w.put a (.dK kv')) fp ∧ a ∈ fp := by
  obtain ⟨f, hf, ow, k⟩ := rel_at R e h1
  obtain ⟨xs, h2, h3, h4, h5⟩ := owD_inv ow
  subst h4
  have ha : a ∈ fp := hf a (List.mem_singleton_self _)
  have S := put_stp (o := .dK kv') R.ok ha h3
  obtain ⟨fp', R', sub⟩ := k (w.put a (.dK kv')) ⟨.dct ds', 1, p⟩ [a] S.ok rfl S.fz (fun x _ hn o ho hF => ⟨(upd_ne (fun z => hn (by rw [z]; exact List.mem_singleton_self _))).trans ho, hF⟩) (owD upd_same h3 t) (fun x m => m) (by simp) rfl
  refine ⟨⟨xs, h2, h5⟩, fp', R', fun x m => ?_, S, ha⟩
  rcases sub x m with m | m
  · rw [List.mem_singleton.mp m]
    exact ha
  · exact m.1
def rSetA : TSet := fun o i v H Q => rSetL o i v H Q ∨ rSetD o i v H Q
theorem set_any (hu : X.A.units + 1 < cLine) : PSet X rSetA := by
  intro pins s σ H o i v ov iv u Q I ro ri rv h
  rcases h with h | h
  · exact set_list pins s σ H o i v ov iv u Q I ro ri rv h
  · exact set_dict hu pins s σ H o i v ov iv u Q I ro ri rv h
theorem slot_val {K : PySem.W.Frag} {i : Nat} {sl : Slot} {v : V} (R : Rel K s0 s st w fp) (e : s.r[i]? = some (some sl)) (h1 : st[i]? = some (some v)) : ∃ f, Ow K w sl.k sl.d v f := by
  obtain ⟨f, _, h, _⟩ := rel_at R e h1
  exact ⟨f, h⟩
theorem cg_idx {o i : Expr} {mo mi : M Op} {pos : Pos} (hu : X.A.units + 1 < cLine) (ho : CE X wx o mo) (hi : CE X wx i mi)
    (ha : ∀ v, assign (.Subscript o i pos) X.env v = (do
      let ov ← holding [v] (eval o X.env)
      let iv ← holding [v, ov] (eval i X.env)
      standAt pos
      holding [v, ov, iv] (setItem ov iv v)
      release [v, ov, iv] []) := by intro _; rfl) : CG X (.Subscript o i pos) (idxG mo mi) [] := by
  refine ⟨fun s0 s st w fp v d k fo Q R ow n hp => ⟨_, pg_sub pe_W pe_W (set_any hu) ha, ?_⟩, fun d k s x s' e => ?_⟩
  · have hp' : Post X wx (fun (_ : Unit) (_ : Unit) (_ : Wd) (f : List Addr) => f = []) s0 st w (fo ++ fp) ((if fzOk k d then bnd mo fun o => bnd mi fun y => bnd (flat y) fun key => setAt o key d else stuck) s) (fun _ H => Q st H) := by
      unfold idxG at hp
      cases hm : (if fzOk k d then bnd mo fun o => bnd mi fun y => bnd (flat y) fun key => setAt o key d else stuck : M Unit) s with
      | ok u s1 =>
        rw [hm] at hp
        exact fun b w' f' fp' R' e n' S' => hp st w' fp' ⟨rfl, fun _ _ => rfl⟩ R' (by rw [e] at S'; exact S')
      | ex x s1 =>
        rw [hm] at hp
        exact hp.elim
      | no =>
        rw [hm] at hp
        exact hp.elim
    by_cases hz : fzOk k d = true
    · rw [if_pos hz] at hp'
      have vx := frz_vx (K := X.K) R.ok fo (fun _ m => m) hz ow
      have R0 := rel_frz R (f := fo) fun x hx hx' => nd_dis n x hx' hx
      have S0 : Stp w (fo ++ fp) (w.frz fo) fp := frz_stp R.ok (fun x m => List.mem_append_left _ m) fun x m => List.mem_append_right _ m
      show W X o st (w.frz fo).H _
      refine ho.go R0 S0 hp' fun x s1 a w1 f1 fp1 R1 r1 n1 S1 hp1 => ?_
      refine hi.go R1 (S0.trans S1.dropL) hp1 fun y s2 b w2 f2 fp2 R2 r2 n2 S2 hp2 => ?_
      have r1' : OpR X.K st w2 x a f1 := OpR.stp r1 S2 (nd_dis n1)
      obtain ⟨key, iv, hp3⟩ := flat_go hp2 R2 r2
      have vx2 : Vx (w2.fz X.K) d v := Vx.mono (S1.dropL.trans S2.dropL).fz _ _ vx
      have S02 : Stp w (fo ++ fp) w2 fp2 := (S0.trans S1.dropL).trans S2.dropL
      unfold setAt at hp3
      cases x with
      | val d' k' => exact hp3.elim
      | slot j =>
        obtain ⟨hs1, rfl⟩ := r1'
        dsimp only at hp3
        split at hp3
        · rename_i ds p e
          split at hp3
          · rename_i kk
            obtain rfl : b = .int kk := iv
            split at hp3
            · rename_i jj hj
              obtain ⟨f, ow1'⟩ := slot_val R2 e hs1
              obtain ⟨q, xs, g', e1, _⟩ := id (show Ow X.K w2 1 (.lst ds) a f from ow1')
              subst e1
              obtain ⟨xs2, h2, h3, _, t2⟩ := ow1_inv (show Ow X.K w2 1 (.lst ds) (.ref q) f from ow1')
              obtain ⟨_, fp3, R3, sub3, S3, _⟩ := rel_lst (ds' := ds.set jj d) (xs' := xs2.set jj v) R2 e hs1 (VxL.setv jj t2 vx2)
              exact .inl ⟨q, xs2, kk, jj, rfl, rfl, h2, by rw [t2.length]; exact hj, hp3 () (w2.put q (.lst (xs2.set jj v))) [] fp3 R3 rfl R3.nd ((S02.trans S3).sub sub3)⟩
            · exact hp3.elim
          · exact hp3.elim
        · rename_i ds p e
          split at hp3
          · rename_i kk hk
            split at hp3
            · rename_i hlen
              obtain ⟨f, ow1'⟩ := slot_val R2 e hs1
              obtain ⟨q, xs, g', e1, _⟩ := id (show Ow X.K w2 1 (.dct ds) a f from ow1')
              subst e1
              obtain ⟨kv2, h2, h3, _, t2⟩ := owD_inv (show Ow X.K w2 1 (.dct ds) (.ref q) f from ow1')
              obtain ⟨_, fp3, R3, sub3, S3, _⟩ := rel_dct (ds' := putD ds kk d) (kv' := putK kv2 kk v) R2 e hs1 (VxD.put t2 vx2)
              have ey : b = kV kk := by
                cases key <;> first | (cases hk; exact iv) | cases hk
              exact .inr ⟨q, _, rfl, .inl ⟨kv2, kk, h2, ey, by rw [t2.len]; exact cap_lt hlen, rfl⟩, hp3 () (w2.put q (.dK (putK kv2 kk v))) [] fp3 R3 rfl R3.nd ((S02.trans S3).sub sub3)⟩
            · exact hp3.elim
          · exact hp3.elim
        · exact hp3.elim
    · rw [if_neg hz] at hp'
      exact hp'.elim
  · unfold idxG noX at e
    split at e
    · cases e
    · rename_i hne
      exact hne x s' e
end
end Mi

set_option Elab.async false
set_option linter.all false
set_option maxRecDepth 100000
set_option maxHeartbeats 4000000
namespace Mi
open PySem L2

/-! ### a def that does what its M-term says -/
section
variable {P : Program} {w : World} {K : PySem.W.Frag} {mg : Str → Option Value} {base : Heap} {x qual : Str} {params : Arguments} {body : List Stmt} {scope : Scope} {dvs : List V} {kws : List (Str × V)} {f : Addr} {fd : FuncData}
theorem fn_ok {N ps : List Str} {k : Nat} {m : M Flow} (F : FunD K x qual params body scope dvs kws f fd) (S : FnScope N ps scope) (hN : ps.length ≤ N.length)
    (hb : ∀ (cdv : Value) (A : Around) (outer : List Env) (s : Shared) (H : Hp) (E : XK), Room k (A.deeper (PyProof.Rows.envOfC qual scope s.heap.objs.size f cdv)) → CSs (cxOf (L2.CX P w) P w K mg base N qual scope f cdv A outer s H E) (wxE E) body m) :
    FnOk P w K mg base (L2.CX P w) (k + 1) f fd ps (spOf K ps.length (mkFn N.length m)) :=
  F.ok S (fun _ _ _ _ h => h.1) fun cdv A outer s H vs Q E hr h => ⟨_, pss_W, body_run (X := cxOf (L2.CX P w) P w K mg base N qual scope f cdv A outer s H E) hN (hb cdv A outer s H E hr) h⟩
theorem tk_cx {N : List Str} {cdv : Value} {A : Around} {outer : List Env} {s : Shared} {H : Hp} {E : XK} : Takes (cxOf (L2.CX P w) P w K mg base N qual scope f cdv A outer s H E) (wxE E) := takes_of rfl rfl rfl rfl
theorem ps_cx {N : List Str} {cdv : Value} {A : Around} {outer : List Env} {s : Shared} {H : Hp} {E : XK} : PassesOwn (model P w) (cxOf (L2.CX P w) P w K mg base N qual scope f cdv A outer s H E).A (cxOf (L2.CX P w) P w K mg base N qual scope f cdv A outer s H E).env (cxOf (L2.CX P w) P w K mg base N qual scope f cdv A outer s H E).xe := passes_of rfl
end
/-- within a block: nothing is let out -/
theorem tk_blk {X : Cx} {s : Shared} {H : Hp} {sc : Scope} {ce : Env} {fp : List Addr} : Takes (X.blk s H sc ce fp) wxF := fun u s' ⟨_, _, _, _, _, _, _, _, _, _, _, _, _, _, _, _, h⟩ => h.elim
/-- a def of the module, known by name -/
structure Cal (P : Program) (w : World) (K : PySem.W.Frag) (mg : Str → Option Value) (base : Heap) (k : Nat) (x : Str) (np : Nat) (fn : Fn) (dfl : List D) : Prop where
  ex : ∃ fa fd ps ds dvs, FnOk P w K mg base (L2.CX P w) k fa fd ps (spOf K np fn) ∧ mg x = some (.ref fa) ∧ PySem.W.keepIn K (.ref fa) = true ∧ Binds K fd ps ds ∧ Vals dvs ds ∧ DflOk dfl dvs
section
variable {X : Cx} {wx : WX} {k j np : Nat} {x : Str} {fn : Fn} {dfl : List D} {p pos : Pos} {e : Expr} {es : List Expr} {ms : M (List Op)}
theorem ce_c (c : Cal X.prog X.w X.K X.mg X.base k x np fn dfl) (hr : Room j X.A) (hk : k ≤ j) (tk : Takes X wx) (hg : Gl X x) (ha : CA X wx (e :: es) ms) (hdb : (x == ("__debug__" : Str)) = false := by decide)
    (he : starEach (e :: es) X.env = (false, eval e X.env) :: starEach es X.env := by rfl) (hpl : (backTo pos (starEach es X.env)).any (·.1) = false := by rfl) : CE X wx (.Call (.Name x p) (e :: es) [] pos) (callM fn np dfl ms) := by
  obtain ⟨fa, fd, ps, ds, dvs, F, hm, kp, b, hv, hd⟩ := c.ex
  exact ce_call F (hr.mono hk) tk hg hm kp b hv hd ha hdb he hpl
theorem pe_call0S {CX : CXT} {f : Addr} {fd : FuncData} {ps : List Str} {sp : Sp} {dvs : List V} {ds : List Value} {E : St → XK} (F : FnOk X.prog X.w X.K X.mg X.base CX k f fd ps sp) (hr : Room k X.A) (hg : Gl X x) (hm : X.mg x = some (.ref f)) (hk : PySem.W.keepIn X.K (.ref f) = true) (hb : Binds X.K fd ps ds) (hd : Vals dvs ds) (hx : ∀ σ, PassesAt CX X σ (E σ))
    (hdb : (x == ("__debug__" : Str)) = false := by decide) : PE X (.Call (.Name x p) [] [] pos) (tCallSD sp dvs E tNil) := by
  refine ⟨fun pins s σ H Q I h => ?_⟩
  refine wpAny_Call_Name_kw (ld_glob I hg hm ?_ hdb)
  exact PySem.W.callWith_K0 I.kIn hk (run_fnSD (us := []) F hr hb hd (hx σ) I .nil h)
theorem ce_c0 (c : Cal X.prog X.w X.K X.mg X.base k x np fn dfl) (hr : Room j X.A) (hk : k ≤ j) (tk : Takes X wx) (hg : Gl X x) (hdb : (x == ("__debug__" : Str)) = false := by decide) : CE X wx (.Call (.Name x p) [] [] pos) (callM fn np dfl evN) := by
  obtain ⟨fa, fd, ps, ds, dvs, F, hm, kp, b, hv, hd⟩ := c.ex
  refine ⟨fun s0 s st w fp Q R hp => ⟨_, pe_call0S (E := WE wx) F (hr.mono hk) hg hm kp b hv (fun st => passAt tk st) hdb, ?_⟩⟩
  have hp1 : Post X wx (RE X.K st) s0 st w fp ((if ([] : List Op).length + dfl.length = np then fun s => match gth [] s.r with
    | none => .no
    | some (args, r') => match fn (args.map (·.1) ++ dflS dfl) s.S with
      | .ok d k outs S' => .ok (.val d k) ⟨fill args outs r', S'⟩
      | .ex x outs S' => .ex x ⟨fill args outs r', S'⟩
      | .no => .no
    else stuck : M Op) s) Q := hp
  by_cases hn : ([] : List Op).length + dfl.length = np
  · rw [if_pos hn] at hp1
    exact sp_call (os := []) (vs := []) (fo := []) hd (by rw [(hd (w.fz X.K)).length]; exact hn) R rfl R.nd (Stp.refl R.ok) hp1
  · rw [if_neg hn] at hp1
    exact hp1.elim
end
end Mi

set_option Elab.async false
set_option linter.all false
set_option maxRecDepth 100000
set_option maxHeartbeats 4000000
namespace Mi
open PySem L2

/-! ### a, b = x, y -/
def parM (i j : Nat) (ms : M (List Op)) : M Flow := bnd ms fun os => match os with
  | [o1, o2] => bnd (own o1) fun p => bnd (own o2) fun q => bnd (setM i p.1 p.2) fun _ => bnd (setM j q.1 q.2) fun _ => ret .nx
  | _ => stuck
section
variable {X : Cx} {wx : WX} {s0 st : St} {s s' : Sx} {w w0 w1 : Wd} {fp fp0 fp1 fo g : List Addr} {E : Ends}
theorem setM_no {i : Nat} {d : D} {k : Nat} {x : Exn} : setM i d k s ≠ .ex x s' := by
  intro e
  unfold setM at e
  split at e
  · split at e <;> cases e
  · cases e
  · cases e
theorem setS_go {i : Nat} {d : D} {k : Nat} {f : Unit → M Flow} {v : V} (hp : PostS X wx s0 w0 fp0 (bnd (setM i d k) f s) E) (R : Rel X.K s0 s st w fp) (ow : Ow X.K w k d v fo) (n : (fo ++ fp).Nodup) :
    ∃ s1 fp', Rel X.K s0 s1 (st.set i (some v)) w fp' ∧ (∀ x ∈ fp', x ∈ fo ++ fp) ∧ PostS X wx s0 w0 fp0 (f () s1) E := by
  unfold bnd at hp
  cases hs : setM i d k s with
  | ok u s1 =>
    rw [hs] at hp
    obtain ⟨rfl, old, h1, h2⟩ := setM_ok hs
    obtain ⟨fp', R', sb⟩ := R.set h1 h2 ow n
    exact ⟨_, fp', R', sb, hp⟩
  | ex x s1 => exact (setM_no hs).elim
  | no =>
    rw [hs] at hp
    exact hp.elim
theorem cs_par {i j : Nat} {x y : Str} {a b : Expr} {ms : M (List Op)} {px py pt pos : Pos} {kt k2 pt2} (hc : X.calm = true) (hN : X.N.Nodup) (hi : X.N[i]? = some x) (hj : X.N[j]? = some y) (hij : i ≠ j)
    (hx : X.env.scope.names.lookup x = some .local) (hy : X.env.scope.names.lookup y = some .local) (ha : CA X wx [a, b] ms)
    (hw : swappedStores [.Tuple [.Name x px, .Name y py] kt pt] (.Tuple [a, b] k2 pt2) X.env = pure (some [x, y]))
    (hs : swapsWithSole [.Tuple [.Name x px, .Name y py] kt pt] (.Tuple [a, b] k2 pt2) pos.line X.env = pure false := by rfl) :
    CS X wx (.Assign [.Tuple [.Name x px, .Name y py] kt pt] (.Tuple [a, b] k2 pt2) pos) (parM i j ms) := by
  refine ⟨fun s0 s st w fp E R hp => ⟨_, ps_par hc hN hi hj hij hx hy pa_W hw hs, ?_⟩⟩
  refine ha.goS R hp fun os s1 vs w1 f1 fp1 R1 r1 n1 S1 hp1 => ?_
  match os, vs, r1, hp1 with
  | [], _, _, hp1 => exact hp1.elim
  | [_], _, _, hp1 => exact hp1.elim
  | _ :: _ :: _ :: _, _, _, hp1 => exact hp1.elim
  | [o1, o2], [v, u], ⟨g1, g2, e1, h1, g3, g4, e2, h2, h3⟩, hp1 =>
    have e3 : g4 = [] := h3
    subst e3
    rw [List.append_nil] at e2
    subst e2
    subst e1
    refine ⟨v, u, rfl, ?_⟩
    have na : (g1 ++ fp1).Nodup := by
      simp only [List.nodup_append, List.mem_append] at n1 ⊢
      grind
    have nb : ∀ x ∈ g2, x ∉ g1 ++ fp1 := fun x hx hx' => by
      simp only [List.nodup_append, List.mem_append] at n1 hx'
      grind
    obtain ⟨d, k, s2, w2, f2, fp2, R2, ow, n2, S2, eH, hp2⟩ := ownS_go hp1 R1 h1 na
    have h2' : OpR X.K st w2 o2 u g2 := OpR.stp h2 S2 nb
    have nd2 : (g2 ++ (f2 ++ fp2)).Nodup := S2.nodup (g := g2) (by
      simp only [List.nodup_append, List.mem_append] at n1 ⊢
      grind) (fun x hx => (OpR.dom h2 x hx).1) n2
    have nd3 : (g2 ++ fp2).Nodup := by
      simp only [List.nodup_append, List.mem_append] at nd2 ⊢
      grind
    obtain ⟨d', k', s3, w3, f3, fp3, R3, ow', n3, S3, eH3, hp3⟩ := ownS_go hp2 R2 h2' nd3
    have nf : ∀ x ∈ f2, x ∉ g2 ++ fp2 := fun x hx hx' => by
      simp only [List.nodup_append, List.mem_append] at nd2 hx'
      grind
    have ow3 : Ow X.K w3 k d v f2 := Ow.stp ow S3 nf
    have n4 : (f2 ++ (f3 ++ fp3)).Nodup := S3.nodup (g := f2) (by
      simp only [List.nodup_append, List.mem_append] at nd2 ⊢
      grind) (fun x hx => (ow.dom x hx).1) n3
    obtain ⟨s4, fp4, R4, sub4, hp4⟩ := setS_go hp3 R3 ow3 (by
      simp only [List.nodup_append, List.mem_append] at n4 ⊢
      grind)
    obtain ⟨s5, fp5, R5, sub5, hp5⟩ := setS_go hp4 R4 ow' (by
      refine List.nodup_append.mpr ⟨(List.nodup_append.mp n3).1, R4.nd, fun x hx y hy e => ?_⟩
      subst e
      have := sub4 x hy
      simp only [List.nodup_append, List.mem_append] at n4 this
      grind)
    rw [← eH, ← eH3]
    have SA : Stp w fp w2 (g2 ++ (f2 ++ fp2)) := S1.trans (by
      have q := S2.beside (g := g2)
      refine (q.more (g := (g1 ++ g2) ++ fp1) fun x m => ?_)
      simp only [List.mem_append] at m ⊢
      grind)
    have SB : Stp w fp w3 (f2 ++ (f3 ++ fp3)) := SA.trans (by
      have q := S3.beside (g := f2)
      refine (q.more (g := g2 ++ (f2 ++ fp2)) fun x m => ?_)
      simp only [List.mem_append] at m ⊢
      grind)
    refine hp5 _ w3 fp5 R5 (SB.sub fun x m => ?_)
    rcases List.mem_append.mp (sub5 x m) with m | m
    · simp [m]
    · have := sub4 x m
      simp only [List.mem_append] at this ⊢
      grind

/-! ### a value that is a def -/
structure CalV (P : Program) (w : World) (K : PySem.W.Frag) (mg : Str → Option Value) (base : Heap) (k : Nat) (x : Str) (np : Nat) (fn : Fn) (dfl : List D) : Prop where
  ex : ∃ fd ps ds dvs, FnOk P w K mg base (L2.CX P w) k (He.ga K x) fd ps (spOf K np fn) ∧ PySem.W.keepIn K (.ref (He.ga K x)) = true ∧ Binds K fd ps ds ∧ Vals dvs ds ∧ DflOk dfl dvs
def callV (tab : List (Str × Nat × Fn)) (m : M Op) (ms : M (List Op)) : M Op := bnd m fun o => bnd (flat o) fun d => match d with
  | .glb y => match tab.lookup y with
    | some (np, fn) => callM fn np [] ms
    | none => stuck
  | _ => stuck
theorem ce_cv {k j : Nat} {fe e : Expr} {es : List Expr} {pos : Pos} {tab : List (Str × Nat × Fn)} {m : M Op} {ms : M (List Op)} (hf : CE X wx fe m) (ht : ∀ y np fn, tab.lookup y = some (np, fn) → CalV X.prog X.w X.K X.mg X.base k y np fn []) (hr : Room j X.A) (hk : k ≤ j) (tk : Takes X wx) (ha : CA X wx (e :: es) ms)
    (hc : eval (.Call fe (e :: es) [] pos) X.env = (do callWith pos (← eval fe X.env) [] (backTo pos (starEach (e :: es) X.env)) (backToKw pos (keywordEach [] X.env))) := by rfl)
    (he : starEach (e :: es) X.env = (false, eval e X.env) :: starEach es X.env := by rfl) (hpl : (backTo pos (starEach es X.env)).any (·.1) = false := by rfl) : CE X wx (.Call fe (e :: es) [] pos) (callV tab m ms) := by
  refine ⟨fun s0 s st w fp Q R hp => ⟨fun st H Q => W X fe st H fun x H1 => ∃ fa fd ps ds dvs sp, x = .ref fa ∧ FnOk X.prog X.w X.K X.mg X.base (L2.CX X.prog X.w) k fa fd ps sp ∧ PySem.W.keepIn X.K (.ref fa) = true ∧ Binds X.K fd ps ds ∧ Vals dvs ds ∧ WA X (e :: es) st H1 fun vs H2 => sp (vs ++ dvs) H2 Q (WE wx st), ⟨fun pins s st H Q I h => ?_⟩, ?_⟩⟩
  · refine PyProof.Rows.Call_ (thn (pe_W.run pins s st H _ I h) fun v s1 ⟨x, H1, I1, r1, fa, fd, ps, ds, dvs, sp, ex, F, hk', b, hv, q⟩ => ?_) hc
    subst ex
    obtain rfl : v = Value.ref fa := r1
    refine PySem.W.callWith_K (h₀ := X.base) I1.ok.mod.kin hk' (thn (pa_W.run pos pins s1 st H1 _ I1 q) fun us s2 ⟨vs, H2, I2, r, q2⟩ => ⟨I2.kIn, ?_⟩) he hpl
    exact run_fnSD F (hr.mono hk) b hv (passAt tk st) I2 r q2
  · refine hf.go R (Stp.refl R.ok) hp fun o s1 v w1 f1 fp1 R1 r1 n1 S1 hp1 => ?_
    obtain ⟨d, iv, hp2⟩ := flat_go hp1 R1 r1
    split at hp2
    · rename_i y
      cases hl : tab.lookup y with
      | none =>
        rw [hl] at hp2
        exact hp2.elim
      | some pr =>
        obtain ⟨np, fn⟩ := pr
        rw [hl] at hp2
        obtain ⟨fd, ps, ds, dvs, F, hk', b, hv, hd⟩ := (ht y np fn hl).ex
        have ev : v = .ref (He.ga X.K y) := iv
        refine ⟨_, fd, ps, ds, dvs, _, ev, F, hk', b, hv, ?_⟩
        refine ha.go R1 S1.dropL hp2 fun os s2 vs w2 f2 fp2 R2 r2 n2 S2 hp3 => ?_
        by_cases hn : os.length + ([] : List D).length = np
        · rw [if_pos hn] at hp3
          exact sp_call hd (by rw [All3.len r2, (hd (w2.fz X.K)).length]; exact hn) R2 r2 n2 (S1.dropL.trans S2) hp3
        · rw [if_neg hn] at hp3
          exact hp3.elim
    · exact hp2.elim
/-- a dict of the module, by text keys -/
def ixkF (tab : List (Str × Str)) : D → D → Option (D × Nat)
  | _, .str z => (tab.lookup z).map fun y => (.glb y, 0)
  | _, _ => none
theorem ce_ixk {x : Str} {pa : Pos} {b : Expr} {mb : M Op} {tab : List (Str × Str)} {pos : Pos} (hg : Gl X x) (hm : X.mg x = some (.ref (He.ga X.K x))) (kd : ∀ z y, tab.lookup z = some y → KDct X.K X.w (He.ga X.K x) z (.ref (He.ga X.K y))) (hb : CE X wx b mb)
    (hd : (x == ("__debug__" : Str)) = false := by decide) (hs : PlainIx b := by intro _ _; rfl) : CE X wx (.Subscript (.Name x pa) b pos) (bin (ixkF tab) (cn (.glb x)) mb) := by
  refine ⟨fun s0 s st w fp Q R hp => ⟨_, pe_ix ix_kdict pe_W pe_W hs, ?_⟩⟩
  have ha : CE X wx (.Name x pa) (cn (.glb x)) := ce_glb hg hm hd
  have ha' : ∀ Q, Q (.ref (He.ga X.K x)) w.H → W X (.Name x pa) st w.H Q := fun Q q => ⟨_, pe_glob (v := V.ref (He.ga X.K x)) hg hm rfl hd, q⟩
  refine ha' _ ?_
  have hp1 : Post X wx (RE X.K st) s0 st w fp (bnd mb (fun y => bnd (flat (.val (.glb x) 0)) fun d => bnd (flat y) fun e => bnd (opt (ixkF tab d e)) fun r => ret (.val r.1 r.2)) s) Q := hp
  refine hb.go R (Stp.refl R.ok) hp1 fun y s2 v w2 f2 fp2 R2 r2 n2 S2 hp2 => ?_
  have hp3 : Post X wx (RE X.K st) s0 st w fp (bnd (flat y) (fun e => bnd (opt (ixkF tab (.glb x) e)) fun r => ret (.val r.1 r.2)) s2) Q := hp2
  obtain ⟨e, i2, hp4⟩ := flat_go hp3 R2 r2
  obtain ⟨⟨o, k⟩, ef, hp5⟩ := opt_go hp4
  unfold ixkF at ef
  split at ef
  · rename_i z
    obtain ⟨yy, h1, h2⟩ := map_some' ef
    cases h2
    have ev : v = .str z := i2
    exact ⟨He.ga X.K x, z, .ref (He.ga X.K yy), rfl, ev, kd z yy h1, (res_end (g := f2) hp5 R2 S2).here R2.ok ⟨rfl, rfl⟩⟩
  · cases ef
end
end Mi

set_option Elab.async false
set_option linter.all false
set_option maxRecDepth 100000
set_option maxHeartbeats 4000000
namespace Mi
open PySem L2

/-! ### displays of dicts -/
def mergeD (kvs more : List (Key × D)) : List (Key × D) := more.foldl (fun acc kv => putD acc kv.1 kv.2) kvs
def prsN : M (List (Key × D)) := ret []
def prsC (mk mv : M Op) (r : M (List (Key × D))) : M (List (Key × D)) := bnd mk fun a => bnd mv fun b => bnd (flat a) fun kd => bnd (opt (keyOf kd)) fun k => bnd (fzo b) fun d => bnd r fun t => ret ((k, d) :: t)
def dctM (ps : M (List (Key × D))) : M Op := bnd ps fun kvs => if kvs.length ≤ 15 then ret (.val (.dct (mergeD [] kvs)) 1) else stuck
def RPs (K : PySem.W.Frag) : List (Key × D) → List (V × V) → Wd → List Addr → Prop := fun a b w fo => (∃ kvs, b = kvs.map (fun kv => (kV kv.1, kv.2)) ∧ VxD (w.fz K) a kvs) ∧ fo = []
structure CPs (X : Cx) (wx : WX) (pos : Pos) (keys : List (Option Expr)) (values : List Expr) (trs : List (TE × TE)) (m : M (List (Key × D))) : Prop where
  pp : PPs X pos keys values trs
  run : ∀ s0 s st w fp Q, Rel X.K s0 s st w fp → Post X wx (RPs X.K) s0 st w fp (m s) Q → tPairs trs st w.H Q
section
variable {X : Cx} {wx : WX} {s0 st : St} {s s' : Sx} {w w0 w1 : Wd} {fp fp0 fp1 fo g : List Addr}
theorem VxD.mono' {r r' : Rp} (L : r.Le r') {ds : List (Key × D)} {kv : List (Key × V)} (h : VxD r ds kv) : VxD r' ds kv := VxD.mono L _ _ h
theorem VxD.merge {q : Rp} : ∀ {more ds : List (Key × D)} {mv kv : List (Key × V)}, VxD q more mv → VxD q ds kv → VxD q (mergeD ds more) (mergeK kv mv)
  | [], ds, mv, kv, h, g => by
    rw [show mv = [] from h]
    exact g
  | (k, d) :: more, ds, mv, kv, ⟨v, t, e, h, r⟩, g => by
    rw [e]
    show VxD q (mergeD (putD ds k d) more) (mergeK (putK kv k v) t)
    exact VxD.merge r (VxD.put g h)
theorem PostE.from {α β : Type} {RR : α → β → Wd → List Addr → Prop} {r : Rs α} {Q : β → Hp → Prop} (h : Post X wx RR s0 st w0 fp0 r Q) (S : Stp w0 fp0 w fp) : Post X wx RR s0 st w fp r Q := by
  cases r with
  | ok a s' => exact fun b w' fo fp' R' r' n' S' => h b w' fo fp' R' r' n' (S.trans S')
  | ex x s' => exact PostX.from h S
  | no => exact h
theorem cps_nil {pos : Pos} : CPs X wx pos [] [] [] prsN := ⟨pps_nil, fun s0 s st w fp Q R hp => hp [] w [] fp R ⟨⟨[], rfl, rfl⟩, rfl⟩ R.nd (Stp.refl R.ok)⟩
theorem cps_cons {pos : Pos} {k v : Expr} {ks : List (Option Expr)} {vs : List Expr} {trs : List (TE × TE)} {mk mv : M Op} {r : M (List (Key × D))} (hk : CE X wx k mk) (hv : CE X wx v mv) (hr : CPs X wx pos ks vs trs r) :
    CPs X wx pos (some k :: ks) (v :: vs) ((W X k, W X v) :: trs) (prsC mk mv r) := by
  refine ⟨pps_cons pe_W pe_W hr.pp, fun s0 s st w fp Q R hp => ?_⟩
  show W X k st w.H fun x H1 => W X v st H1 fun y H2 => tPairs trs st H2 fun ps H3 => Q ((x, y) :: ps) H3
  refine two (Kk := fun x y H2 => tPairs trs st H2 fun ps H3 => Q ((x, y) :: ps) H3) hk hv R hp fun a b s2 x y w2 f1 f2 fp2 R2 r1 r2 n2 S2 hp2 => ?_
  obtain ⟨kd, i1, hp3⟩ := flat_go hp2 R2 r1
  obtain ⟨key, ek, hp4⟩ := opt_go hp3
  obtain ⟨d, s3, w3, fp3, R3, vx, S3, eH, eN, sub3, hp5⟩ := fzo_go hp4 R2 r2 (List.nodup_append.mp n2).2.1
  rw [← eH]
  have S03 : Stp w fp w3 fp3 := S2.dropL.trans S3
  refine hr.run s0 s3 st w3 fp3 _ R3 ?_
  unfold bnd at hp5
  cases hm : r s3 with
  | ex x1 s4 =>
    rw [hm] at hp5
    exact PostX.from hp5 S03
  | no =>
    rw [hm] at hp5
    exact hp5.elim
  | ok t s4 =>
    rw [hm] at hp5
    intro ps w4 fo4 fp4 R4 r4 n4 S4
    obtain ⟨⟨kvs, rfl, vt⟩, rfl⟩ := r4
    have ex : x = kV key := by
      cases kd <;> first | (cases ek; exact i1) | cases ek
    refine hp5 _ w4 [] fp4 R4 ⟨⟨(key, y) :: kvs, by rw [ex]; rfl, y, kvs, rfl, Vx.mono S4.fz _ _ vx, vt⟩, rfl⟩ R4.nd (S03.trans S4)
theorem ce_dct {pos : Pos} {keys : List (Option Expr)} {values : List Expr} {trs : List (TE × TE)} {m : M (List (Key × D))} (h : CPs X wx pos keys values trs m) (hall : keys.all (·.isSome) = true := by rfl) (hl : keys.length = values.length := by rfl) (h0 : keys ≠ [] := by simp) (h15 : keys.length ≤ 15 := by decide) :
    CE X wx (.Dict keys values pos) (dctM m) := by
  refine ⟨fun s0 s st w fp Q R hp => ⟨_, pe_disp h.pp hall hl h0 h15, ?_⟩⟩
  intro p hpn
  have hF : w.F p = none := R.ok.none hpn
  have hpf : p ∉ fp := fun z => (R.dom p z).1 hpn
  have R1 : Rel X.K s0 s st (w.put p (.dK [])) fp := rel_put R hF hpf
  have S1 : Stp w fp (w.put p (.dK [])) (p :: fp) := ⟨fun _ _ e => e, fun a o e n => (upd_ne (fun z => by rw [z, hpn] at e; cases e)).trans e, fun _ _ _ _ => rfl, fun x m => (List.mem_cons.mp m).elim (fun z => .inr (by rw [z]; exact hpn)) .inl, Nat.le_refl _, fun _ _ => rfl, put_ok R.ok hF⟩
  have ow1' : Ow X.K (w.put p (.dK [])) 1 (.dct []) (.ref p) [p] := owD upd_same hF rfl
  refine h.run s0 s st (w.put p (.dK [])) fp _ R1 ?_
  unfold dctM bnd at hp
  cases hm : m s with
  | ex x1 s4 =>
    rw [hm] at hp
    exact PostX.from hp (S1.sub fun x m => List.mem_cons_of_mem _ m)
  | no =>
    rw [hm] at hp
    exact hp.elim
  | ok kvs s4 =>
    rw [hm] at hp
    dsimp only at hp
    intro ps w4 fo4 fp4 R4 r4 n4 S4
    obtain ⟨⟨kv, rfl, vt⟩, rfl⟩ := r4
    by_cases h15' : kvs.length ≤ 15
    · rw [if_pos h15'] at hp
      have hp4 : p ∉ fp4 := stp_out S4 hpf (by show upd w.H p _ p ≠ none; rw [upd_same]; simp)
      have ow4 := Ow.stp ow1' S4 (fun z hz => by rw [List.mem_singleton.mp hz]; exact hpf)
      obtain ⟨kv0, h2, h3, _, h5⟩ := owD_inv ow4
      have e0 : kv0 = [] := h5
      subst e0
      refine ⟨h2, kv, rfl, by rw [vt.len]; exact h15', ?_⟩
      have R5 := rel_put (o := .dK (mergeK [] kv)) R4 h3 hp4
      have S5 : Stp w fp (w4.put p (.dK (mergeK [] kv))) (p :: fp4) := (S1.trans (S4.beside (g := [p]))).trans (put_stp R4.ok (List.mem_cons_self ..) h3)
      exact hp (.ref p) (w4.put p (.dK (mergeK [] kv))) [p] fp4 R5 (owD upd_same h3 (VxD.merge vt rfl)) (List.nodup_cons.mpr ⟨hp4, R4.nd⟩) S5
    · rw [if_neg h15'] at hp
      exact hp.elim
/-- {} -/
theorem ce_dct0 {pos : Pos} : CE X wx (.Dict [] [] pos) (ret (.val (.dct []) 1)) := by
  refine ⟨fun s0 s st w fp Q R hp => ⟨_, pe_dnewK, fun p hpn => ?_⟩⟩
  have hF : w.F p = none := R.ok.none hpn
  have hpf : p ∉ fp := fun z => (R.dom p z).1 hpn
  have S1 : Stp w fp (w.put p (.dK [])) (p :: fp) := ⟨fun _ _ e => e, fun a o e n => (upd_ne (fun z => by rw [z, hpn] at e; cases e)).trans e, fun _ _ _ _ => rfl, fun x m => (List.mem_cons.mp m).elim (fun z => .inr (by rw [z]; exact hpn)) .inl, Nat.le_refl _, fun _ _ => rfl, put_ok R.ok hF⟩
  exact hp (.ref p) (w.put p (.dK [])) [p] fp (rel_put R hF hpf) (owD upd_same hF rfl) (List.nodup_cons.mpr ⟨hpf, R.nd⟩) S1
/-- d.get(k, x) -/
def getM (mo mk mx : M Op) : M Op := bnd mo fun o => bnd (flat o) fun d0 => match d0 with
  | .dct _ => bnd mk fun a => bnd mx fun b => bnd (flat o) fun d => bnd (flat a) fun kd => bnd (fzo b) fun x => match d with
    | .dct kvs => bnd (opt (keyOf kd)) fun k => ret (.val ((getK kvs k).getD x) 0)
    | _ => stuck
  | _ => stuck
theorem ce_get {o e f : Expr} {mo mk mx : M Op} {apos cpos : Pos} (hu : X.A.units + 1 < cLine) (ho : CE X wx o mo) (he : CE X wx e mk) (hf : CE X wx f mx) (m : M2 X o "get" apos e f cpos) : CE X wx (.Call (.Attribute o "get" apos) [e, f] [] cpos) (getM mo mk mx) := by
  refine ⟨fun s0 s st w fp Q R hp => ⟨_, pe_dget2 hu pe_W pe_W pe_W m, ?_⟩⟩
  refine ho.go R (Stp.refl R.ok) hp fun o s1 v w1 f1 fp1 R1 r1 n1 S1 hp1 => ?_
  obtain ⟨d0, iv, hp2⟩ := flat_go hp1 R1 r1
  split at hp2
  · rename_i kvs0
    obtain ⟨a, kv0, rfl, h0, t0⟩ := iv
    refine ⟨a, rfl, .inl ⟨kv0, h0⟩, ?_⟩
    refine two (Kk := fun y z H3 => ∃ o, DGet H3 a y o ∧ Q (o.getD z) H3) he hf R1 (PostE.from hp2 S1.dropL) fun x y s2 u z w2 f2 f3 fp2 R2 r2 r3 n2 S2 hp3 => ?_
    have hd : ∀ x ∈ f1, x ∉ fp1 := nd_dis n1
    have r1' : OpR X.K st w2 o (.ref a) f1 := OpR.stp r1 S2 hd
    obtain ⟨d, i1, hp4⟩ := flat_go hp3 R2 r1'
    obtain ⟨kd, i2, hp5⟩ := flat_go hp4 R2 r2
    obtain ⟨x', s3, w3, fp3, R3, vx, S3, eH, eN, sub3, hp6⟩ := fzo_go hp5 R2 r3 (List.nodup_append.mp n2).2.1
    split at hp6
    · rename_i kvs
      obtain ⟨key, ek, hp7⟩ := opt_go hp6
      obtain ⟨a', kv, ea, h3, t3⟩ := i1
      cases ea
      have eu : u = kV key := by
        cases kd <;> first | (cases ek; exact i2) | cases ek
      have S13 : Stp w1 fp1 w3 fp3 := S2.dropL.trans S3
      have Lz : (w2.fz X.K).Le (w3.fz X.K) := S3.fz
      rw [← eH] at h3 ⊢
      refine ⟨valV kv key, .inl ⟨kv, key, h3, eu, rfl⟩, ?_⟩
      rcases VxD.get key t3 with ⟨g1, g2⟩ | ⟨dd, vv, g1, g2, g3⟩
      · rw [g1] at hp7
        rw [g2]
        exact hp7 z w3 [] fp3 R3 ⟨vx, rfl⟩ R3.nd S13
      · rw [g1] at hp7
        rw [g2]
        exact hp7 vv w3 [] fp3 R3 ⟨Vx.mono Lz _ _ g3, rfl⟩ R3.nd S13
    · exact hp6.elim
  · exact hp2.elim
end
end Mi

set_option Elab.async false
set_option linter.all false
set_option maxRecDepth 100000
set_option maxHeartbeats 4000000
namespace Mi
open PySem L2

/-! ### calls with keywords: the values as they are made, then the defaults; a code puts them in the parameters' order -/
def pickL {α : Type} : List Nat → List α → List α
  | [], _ => []
  | i :: is, l => match l[i]? with
    | some a => a :: pickL is (l.eraseIdx i)
    | none => []
section
variable {P : Program} {w : World} {K : PySem.W.Frag} {mg : Str → Option Value} {base : Heap} {x qual : Str} {params : Arguments} {body : List Stmt} {scope : Scope} {dvs : List V} {kws : List (Str × V)} {f : Addr} {fd : FuncData} {ps ks : List Str} {n : Nat}
/-- what a call binds: n positional values, keywords named ks, the defaults its -/
def KwB (K : PySem.W.Frag) (fd : FuncData) (ps : List Str) (n : Nat) (ks : List Str) (code : List Nat) (its : List Value) : Prop := ∀ (s : Shared) (us ws : List Value), K.In s.heap → us.length = n → ws.length = ks.length → BindsTo s fd ⟨us, ks.zip ws⟩ (ps.zip (pickL code (us ++ (ws ++ its))))
theorem kw_binds0 {code : List Nat} (F : FunD K x qual params body scope [] kws f fd)
    (h : ∀ (kV doc pm : Value) (an : Option Addr) (cdv ct : Value) (us ws : List Value), us.length = n → ws.length = ks.length → bindArgs (PySem.W.fnOf x qual params body scope .none kV doc pm an cdv ct) ⟨us, ks.zip ws⟩ = pure (ps.zip (pickL code (us ++ (ws ++ []))))) : KwB K fd ps n ks code [] := by
  obtain ⟨oc, od, dV, kV, doc, pm, an, cdv, ct, osl, rfl, lk, hcd, hD, hK⟩ := F.ex
  rcases hD with ⟨_, rfl⟩ | ⟨e, _⟩
  · exact fun s us ws _ h1 h2 => BindsTo.of_eq (h kV doc pm an cdv ct us ws h1 h2)
  · exact absurd rfl e
theorem kw_binds1 {code : List Nat} (F : FunD K x qual params body scope dvs kws f fd) (hd : dvs ≠ [])
    (h : ∀ (T : Addr) (kV doc pm : Value) (an : Option Addr) (cdv ct : Value) (us ws its : List Value), us.length = n → ws.length = ks.length → its.length = dvs.length →
      ∃ k, bindArgs (PySem.W.fnOf x qual params body scope (.ref T) kV doc pm an cdv ct) ⟨us, ks.zip ws⟩ = seqItems? (.ref T) >>= k ∧ k (some its.toArray) = pure (ps.zip (pickL code (us ++ (ws ++ its))))) : ∃ its, Vals dvs its ∧ KwB K fd ps n ks code its := by
  obtain ⟨oc, od, dV, kV, doc, pm, an, cdv, ct, osl, rfl, lk, hcd, hD, hK⟩ := F.ex
  rcases hD with ⟨e, _⟩ | ⟨_, T, o, its, m, rfl, lT, oT, rT⟩
  · exact absurd e hd
  · refine ⟨its, rT, fun s us ws X h1 h2 => ?_⟩
    obtain ⟨k, e1, e2⟩ := h T kV doc pm an cdv ct us ws its h1 h2 rT.length.symm
    refine BindsTo.of_looks fun M => ?_
    rw [e1]
    exact looks_items X lT oT (.of_pure e2)
end
structure CalK (P : Program) (w : World) (K : PySem.W.Frag) (mg : Str → Option Value) (base : Heap) (k : Nat) (x : Str) (np : Nat) (fn : Fn) (n : Nat) (ks : List Str) (code : List Nat) (dfl : List D) : Prop where
  ex : ∃ fa fd ps its dvs, FnOk P w K mg base (L2.CX P w) k fa fd ps (spOf K np fn) ∧ mg x = some (.ref fa) ∧ PySem.W.keepIn K (.ref fa) = true ∧ KwB K fd ps n ks code its ∧ Vals dvs its ∧ DflOk dfl dvs
def WK (X : Cx) (kws : List Keyword) : TA := fun st H Q => ∃ t, PK X kws t ∧ t st H Q
abbrev CK (X : Cx) (wx : WX) (kws : List Keyword) (m : M (List Op)) : Prop := CJ X wx (WK X kws) (RA X.K) m
def callK (fn : Fn) (np n nk : Nat) (code : List Nat) (dfl : List D) (ms mk : M (List Op)) : M Op := bnd ms fun os => bnd mk fun zs => if os.length = n ∧ zs.length = nk then callM fn np [] (ret (pickL code (os ++ (zs ++ dfl.map fun d => Op.val d 0)))) else stuck
section
variable {X : Cx} {wx : WX} {s0 st : St} {s s' : Sx} {w w0 w1 : Wd} {fp fp0 fp1 fo g : List Addr}
theorem pk_W {kws : List Keyword} : PK X kws (WK X kws) := ⟨fun pos pins s st H Q I ⟨_, h, q⟩ => h.run pos pins s st H Q I q⟩
theorem ck_nil : CK X wx [] evN := ⟨fun s0 s st w fp Q R hp => ⟨_, pk_nil, hp [] w [] fp R rfl R.nd (Stp.refl R.ok)⟩⟩
theorem ck_cons {e : Expr} {kws : List Keyword} {nm : Option Str} {kpos : Pos} {m : M Op} {ms : M (List Op)} (h : CE X wx e m) (hs : CK X wx kws ms) : CK X wx (⟨nm, e, kpos⟩ :: kws) (evC m ms) := by
  refine ⟨fun s0 s st w fp Q R hp => ⟨_, pk_cons pe_W pk_W, ?_⟩⟩
  refine h.go R (Stp.refl R.ok) hp fun o s1 u w1 f1 fp1 R1 r1 n1 S1 hp1 => ?_
  refine hs.go R1 S1.dropL hp1 fun os s2 vs w2 f2 fp2 R2 r2 n2 S2 hp2 => ?_
  have r1' : OpR X.K st w2 o u f1 := OpR.stp r1 S2 (nd_dis n1)
  have n3 : (f1 ++ (f2 ++ fp2)).Nodup := S2.nodup n1 (fun z hz => (OpR.dom r1 z hz).1) n2
  exact hp2 (u :: vs) w2 (f1 ++ f2) fp2 R2 ⟨f1, f2, rfl, r1', r2⟩ (by rw [List.append_assoc]; exact n3) (by rw [List.append_assoc]; exact S1.trans S2.beside)
theorem all3_take {α β : Type} {Pr : α → β → List Addr → Prop} : ∀ {as : List α} {bs : List β} {fp : List Addr} {i : Nat} {a : α}, All3 Pr as bs fp → as[i]? = some a → ∃ b f fp', bs[i]? = some b ∧ Pr a b f ∧ All3 Pr (as.eraseIdx i) (bs.eraseIdx i) fp' ∧ fp.Perm (f ++ fp')
  | [], [], _, _, _, _, e => by cases e
  | a :: as, b :: bs, _, 0, _, ⟨f, g, e, h, t⟩, z => by
    cases z
    exact ⟨b, f, g, rfl, h, t, by rw [e]⟩
  | a :: as, b :: bs, _, i + 1, _, ⟨f, g, e, h, t⟩, z => by
    obtain ⟨b', f', g', h1, h2, h3, h4⟩ := all3_take (i := i) t z
    refine ⟨b', f', f ++ g', h1, h2, ⟨f, g', rfl, h, h3⟩, ?_⟩
    rw [e]
    have q : (f ++ g).Perm (f ++ (f' ++ g')) := List.Perm.append_left f h4
    refine q.trans ?_
    rw [← List.append_assoc, ← List.append_assoc]
    exact List.Perm.append_right g' List.perm_append_comm
  | [], _ :: _, _, _, _, h, _ => h.elim
  | _ :: _, [], _, _, _, h, _ => h.elim
theorem all3_pick {α β : Type} {Pr : α → β → List Addr → Prop} : ∀ {code : List Nat} {as : List α} {bs : List β} {fp : List Addr}, All3 Pr as bs fp → ∃ fp' rest, All3 Pr (pickL code as) (pickL code bs) fp' ∧ fp.Perm (fp' ++ rest)
  | [], as, bs, fp, h => ⟨[], fp, rfl, List.Perm.refl _⟩
  | i :: is, as, bs, fp, h => by
    unfold pickL
    cases ha : as[i]? with
    | none =>
      have hb : bs[i]? = none := by
        rw [List.getElem?_eq_none_iff] at ha ⊢
        rw [h.len]
        exact ha
      rw [hb]
      exact ⟨[], fp, rfl, List.Perm.refl _⟩
    | some a =>
      obtain ⟨b, f, fp1, h1, h2, h3, h4⟩ := all3_take h ha
      rw [h1]
      obtain ⟨fp2, rest, h5, h6⟩ := all3_pick (code := is) h3
      refine ⟨f ++ fp2, rest, ⟨f, fp2, rfl, h2, h5⟩, h4.trans ?_⟩
      rw [List.append_assoc]
      exact List.Perm.append_left f h6
theorem vals_pick : ∀ {code : List Nat} {vs : List V} {us : List Value}, Vals vs us → Vals (pickL code vs) (pickL code us)
  | [], vs, us, h => .nil
  | i :: is, vs, us, h => by
    unfold pickL
    cases ha : vs[i]? with
    | none =>
      have hb : us[i]? = none := by
        rw [List.getElem?_eq_none_iff] at ha ⊢
        rw [← h.length]
        exact ha
      rw [hb]
      exact .nil
    | some a =>
      obtain ⟨u, h1, h2⟩ := h.get ha
      rw [h1]
      exact .cons h2 (vals_pick (h.eraseIdx i))
theorem dfl_ops {K : PySem.W.Frag} {w : Wd} : ∀ {ds : List D} {vs : List V}, VxL (w.fz K) ds vs → All3 (OpR K st w) (ds.map fun d => Op.val d 0) vs []
  | [], vs, h => by
    rw [show vs = [] from h]
    rfl
  | d :: ds, vs, ⟨v, t, e, h1, h2⟩ => by
    rw [e]
    exact ⟨[], [], rfl, ⟨h1, rfl⟩, dfl_ops h2⟩
variable {k j np n : Nat} {x : Str} {fn : Fn} {ks : List Str} {code : List Nat} {dfl : List D} {p pos : Pos} {e : Expr} {es : List Expr} {kws : List Keyword} {ms mk : M (List Op)}
/-- the callee's run -/
theorem run_kw {pins : List (Addr × Obj)} {σ : St} {H : Hp} {s : Shared} {Q : VK} {us ws its : List Value} {vs zs dvs : List V} {fa : Addr} {fd : FuncData} {ps : List Str} {sp : Sp} {E : XK} (F : FnOk X.prog X.w X.K X.mg X.base (L2.CX X.prog X.w) k fa fd ps sp) (hr : Room k X.A) (hb : KwB X.K fd ps n ks code its) (hd : Vals dvs its) (hx : PassesAt (L2.CX X.prog X.w) X σ E)
    (I : Inv X pins σ H s) (r : Vals vs us) (rz : Vals zs ws) (l1 : vs.length = n) (l2 : zs.length = ks.length) (h : sp (pickL code (vs ++ (zs ++ dvs))) H Q E) : wpAny (model X.prog X.w) X.A (call (.ref fa) us (ks.zip ws)) (EP X pins σ Q) X.xe s := by
  have r2 : Vals (pickL code (vs ++ (zs ++ dvs))) (pickL code (us ++ (ws ++ its))) := vals_pick (r.append (rz.append hd))
  refine wpAny_call (codeAny_mono (F.run X.A X.stack s H ⟨us, ks.zip ws⟩ _ _ Q E hr I.env0 (hb s us ws I.kIn (r.length ▸ l1) (rz.length ▸ l2)) r2 h) fun r s' hq => ?_)
  cases r with
  | error e => exact hx pins H s e s' I hq
  | ok fl =>
    cases fl with
    | ret u => exact I.after hq
    | next => exact False.elim hq
    | brk => exact False.elim hq
    | cont => exact False.elim hq
theorem kw_go {fa : Addr} {fd : FuncData} {ps : List Str} {os zo : List Op} {vs zs dvs : List V} {f1 f2 : List Addr} {Q : VK} (hd : DflOk dfl dvs) (R : Rel X.K s0 s st w fp) (h1 : All3 (OpR X.K st w) os vs f1) (h2 : All3 (OpR X.K st w) zo zs f2) (nd : (f1 ++ (f2 ++ fp)).Nodup) (S : Stp w0 fp0 w (f1 ++ (f2 ++ fp)))
    (hp : Post X wx (RE X.K st) s0 st w0 fp0 (callM fn np [] (ret (pickL code (os ++ (zo ++ dfl.map fun d => Op.val d 0)))) s) Q) : spOf X.K np fn (pickL code (vs ++ (zs ++ dvs))) w.H Q (WE wx st) := by
  have q := All3.append h1 (All3.append h2 (dfl_ops (st := st) (hd (w.fz X.K))))
  rw [List.append_nil] at q
  obtain ⟨fo', rest, q1, q2⟩ := all3_pick (code := code) q
  have hp' : Post X wx (RE X.K st) s0 st w0 fp0 ((if (pickL code (os ++ (zo ++ dfl.map fun d => Op.val d 0))).length + ([] : List D).length = np then fun s => match gth (pickL code (os ++ (zo ++ dfl.map fun d => Op.val d 0))) s.r with
    | none => .no
    | some (args, r') => match fn (args.map (·.1) ++ dflS []) s.S with
      | .ok d k outs S' => .ok (.val d k) ⟨fill args outs r', S'⟩
      | .ex x outs S' => .ex x ⟨fill args outs r', S'⟩
      | .no => .no
    else stuck : M Op) s) Q := hp
  have sub : ∀ y ∈ fo', y ∈ f1 ++ f2 := fun y hy => q2.mem_iff.mpr (List.mem_append_left _ hy)
  have ndq : (fo' ++ rest).Nodup := q2.nodup_iff.mp (by
    rw [← List.append_assoc] at nd
    exact (List.nodup_append.mp nd).1)
  have nd2 : (fo' ++ fp).Nodup := by
    rw [← List.append_assoc] at nd
    obtain ⟨a1, a2, a3⟩ := List.nodup_append.mp nd
    exact List.nodup_append.mpr ⟨(List.nodup_append.mp ndq).1, a2, fun y hy z hz => a3 y (sub y hy) z hz⟩
  have S2 : Stp w0 fp0 w (fo' ++ fp) := S.sub fun y hy => by
    rcases List.mem_append.mp hy with hy | hy
    · have := sub y hy
      simp only [List.mem_append] at this ⊢
      grind
    · simp [hy]
  by_cases hn : (pickL code (os ++ (zo ++ dfl.map fun d => Op.val d 0))).length + ([] : List D).length = np
  · rw [if_pos hn] at hp'
    have hd0 : DflOk ([] : List D) ([] : List V) := fun _ => rfl
    have z := sp_call (np := np) (dfl := []) (dvs := []) hd0 (by rw [All3.len q1]; exact hn) R q1 nd2 S2 hp'
    rw [List.append_nil] at z
    exact z
  · rw [if_neg hn] at hp'
    exact hp'.elim
theorem ce_ck {nk : Nat} (c : CalK X.prog X.w X.K X.mg X.base k x np fn n ks code dfl) (hr : Room j X.A) (hk : k ≤ j) (tk : Takes X wx) (hg : Gl X x) (ha : CA X wx (e :: es) ms) (hkw : CK X wx kws mk) (hnk : ks.length = nk := by rfl) (hall : (backToKw pos (keywordEach kws X.env)).all (·.1.isSome) = true := by rfl) (hks : (backToKw pos (keywordEach kws X.env)).filterMap (·.1) = ks := by rfl)
    (hdb : (x == ("__debug__" : Str)) = false := by decide) (he : starEach (e :: es) X.env = (false, eval e X.env) :: starEach es X.env := by rfl)
    (hpl : ((backTo pos (starEach (e :: es) X.env)).any (·.1) || (backToKw pos (keywordEach kws X.env)).any (·.1.isNone)) = false := by rfl) : CE X wx (.Call (.Name x p) (e :: es) kws pos) (callK fn np n nk code dfl ms mk) := by
  subst hnk
  obtain ⟨fa, fd, ps, its, dvs, F, hm, kp, b, hv, hd⟩ := c.ex
  refine ⟨fun s0 s st w fp Q R hp => ⟨fun st H Q => WA X (e :: es) st H fun vs H1 => WK X kws st H1 fun zs H2 => vs.length = n ∧ zs.length = ks.length ∧ spOf X.K np fn (pickL code (vs ++ (zs ++ dvs))) H2 Q (WE wx st), ⟨fun pins s st H Q I h => ?_⟩, ?_⟩⟩
  · refine wpAny_Call_Name_kw (ld_glob I hg hm ?_ hdb)
    refine PySem.W.callWith_KW (h₀ := X.base) I.ok.mod.kin kp hall (thn (pa_W.run pos pins s st H _ I h) fun us s1 ⟨vs, H1, I1, r, q⟩ => ?_) hpl he
    refine thn (pk_W.run pos pins s1 st H1 _ I1 q) fun ws s2 ⟨zs, H2, I2, rz, l1, l2, q2⟩ => ⟨I2.kIn, ?_⟩
    rw [hks]
    exact run_kw F (hr.mono hk) b hv (passAt tk st) I2 r rz l1 l2 q2
  · refine ha.go R (Stp.refl R.ok) hp fun os s1 vs w1 f1 fp1 R1 r1 n1 S1 hp1 => ?_
    refine hkw.go R1 S1.dropL hp1 fun zo s2 zs w2 f2 fp2 R2 r2 n2 S2 hp2 => ?_
    have r1' := all3_stp r1 S2 (nd_dis n1)
    have n3 : (f1 ++ (f2 ++ fp2)).Nodup := S2.nodup n1 (fun z hz => (all3_dom r1 z hz).1) n2
    by_cases hl : os.length = n ∧ zo.length = ks.length
    · rw [if_pos hl] at hp2
      exact ⟨by rw [All3.len r1]; exact hl.1, by rw [All3.len r2]; exact hl.2, kw_go (fa := fa) (fd := fd) (ps := ps) hd R2 r1' r2 n3 (S1.trans S2.beside) hp2⟩
    · rw [if_neg hl] at hp2
      exact hp2.elim
theorem ce_ck0 {nk : Nat} (c : CalK X.prog X.w X.K X.mg X.base k x np fn 0 ks code dfl) (hr : Room j X.A) (hk : k ≤ j) (tk : Takes X wx) (hg : Gl X x) (hkw : CK X wx kws mk) (hnk : ks.length = nk := by rfl) (hall : (backToKw pos (keywordEach kws X.env)).all (·.1.isSome) = true := by rfl) (hks : (backToKw pos (keywordEach kws X.env)).filterMap (·.1) = ks := by rfl)
    (hdb : (x == ("__debug__" : Str)) = false := by decide) (hpl : ((backTo pos (starEach [] X.env)).any (·.1) || (backToKw pos (keywordEach kws X.env)).any (·.1.isNone)) = false := by rfl) : CE X wx (.Call (.Name x p) [] kws pos) (callK fn np 0 nk code dfl evN mk) := by
  subst hnk
  obtain ⟨fa, fd, ps, its, dvs, F, hm, kp, b, hv, hd⟩ := c.ex
  refine ⟨fun s0 s st w fp Q R hp => ⟨fun st H Q => WK X kws st H fun zs H2 => zs.length = ks.length ∧ spOf X.K np fn (pickL code ([] ++ (zs ++ dvs))) H2 Q (WE wx st), ⟨fun pins s st H Q I h => ?_⟩, ?_⟩⟩
  · refine wpAny_Call_Name_kw (ld_glob I hg hm ?_ hdb)
    refine PySem.W.callWith_KW0 (h₀ := X.base) I.ok.mod.kin kp hall (thn (pk_W.run pos pins s st H _ I h) fun ws s2 ⟨zs, H2, I2, rz, l2, q2⟩ => ⟨I2.kIn, ?_⟩) hpl
    rw [hks]
    exact run_kw (vs := []) (us := []) F (hr.mono hk) b hv (passAt tk st) I2 .nil rz rfl l2 q2
  · have hp1 : Post X wx (RE X.K st) s0 st w fp (bnd mk (fun zs => if ([] : List Op).length = 0 ∧ zs.length = ks.length then callM fn np [] (ret (pickL code ([] ++ (zs ++ dfl.map fun d => Op.val d 0)))) else stuck) s) Q := hp
    refine hkw.go R (Stp.refl R.ok) hp1 fun zo s2 zs w2 f2 fp2 R2 r2 n2 S2 hp2 => ?_
    by_cases hl : ([] : List Op).length = 0 ∧ zo.length = ks.length
    · rw [if_pos hl] at hp2
      exact ⟨by rw [All3.len r2]; exact hl.2, kw_go (fa := fa) (fd := fd) (ps := ps) (os := []) (vs := []) (f1 := []) hd R2 rfl r2 n2 S2 hp2⟩
    · rw [if_neg hl] at hp2
      exact hp2.elim
end
end Mi

set_option Elab.async false
set_option linter.all false
set_option maxRecDepth 100000
set_option maxHeartbeats 4000000
namespace Mi
open PySem L2

section
variable {X : Cx} {wx : WX}
/-- what is not gone into -/
theorem cs_stuck {c : Stmt} : CS X wx c stuck := ⟨fun _ _ _ _ _ _ _ hp => hp.elim⟩
theorem ce_stuck {e : Expr} : CE X wx e stuck := ⟨fun _ _ _ _ _ _ _ hp => hp.elim⟩
def negF : D → Option (D × Nat)
  | .int i => some (.int (-i), 0)
  | _ => none
theorem ce_neg {a : Expr} {ma : M Op} {pos : Pos} (ha : CE X wx a ma) : CE X wx (.UnaryOp .USub a pos) (uno negF ma) := by
  refine ce_uno (J := fun t => t) (r := rU fun i => .int (-i)) (fun t h => pe_un un_neg h) ?_ ha
  intro w d x o k Q ok hx e hr
  cases d with
  | int i =>
    cases e
    exact ⟨i, hx, hr.int ok⟩
  | _ => cases e
/-- the sources by name -/
theorem ct_ofW {op : BoolOp} {es : List Expr} {pos : Pos} {m : M Bool} (h : CW X wx (.BoolOp op es pos) m) : CT X wx (.BoolOp op es pos) m := ct_w h
end
/-- a look at a short list -/
theorem lk_cons {α : Type} {k y : Str} {v r : α} {l : List (Str × α)} (h : ((k, v) :: l).lookup y = some r) : (y = k ∧ r = v) ∨ l.lookup y = some r := by
  rw [List.lookup_cons] at h
  cases e : y == k with
  | true =>
    rw [e] at h
    exact .inl ⟨by simpa using e, (Option.some.inj h).symm⟩
  | false =>
    rw [e] at h
    exact .inr h
theorem scr_vx {r : Rp} : ∀ {ns : List Int}, VxL r (ns.map D.int) (ns.map V.int)
  | [] => rfl
  | n :: ns => ⟨_, _, rfl, rfl, scr_vx⟩
/-- the law's promise, from what its function answers -/
theorem law_at {K : PySem.W.Frag} {fn : Fn} {H : Hp} {a : Addr} {ns : List Int} {E : XK} (hS : SqL K H a (ns.map V.int)) (h : ∃ outs S', fn [⟨.scr (ns.map D.int), 0, false⟩] [] = .ok (.bl true) 0 outs S') : spOf K 1 fn [.ref a] H (fun v _ => v = .bl true) E := by
  obtain ⟨outs, S', e⟩ := h
  refine ⟨rfl, ⟨H, H, fun _ => 0, 0⟩, [⟨.scr (ns.map D.int), 0, false⟩], [], [], [], rfl, fun _ _ q => q, rfl, ⟨[], [], rfl, ⟨⟨a, _, rfl, hS, scr_vx⟩, rfl⟩, rfl⟩, rfl, List.nodup_nil, ?_⟩
  rw [e]
  intro v w' fo fa' fs' _ _ ow _ _ _
  exact ow.1
theorem cx_false {P : Program} {w : World} {H : Hp} {s : Shared} {e : Value} {s' : Shared} (h : L2.CX P w [] H s (fun _ _ _ => False) e s') : False := by
  obtain ⟨a, B, H', cls, d, _, _, _, _, _, _, _, f⟩ := h
  exact f
def fuel : Nat := 1000000
end Mi

set_option Elab.async false
set_option linter.all false
set_option maxRecDepth 100000
set_option maxHeartbeats 4000000
namespace Mi
open PySem L2

/-! ### equations by which the terms are evaluated at a state -/
section
variable {α β : Type} {s s' : Sx} {d : D} {k i j : Nat}
theorem e_bnd (m : M α) (f : α → M β) : bnd m f s = (match m s with
  | .ok a s' => f a s'
  | .ex x s' => .ex x s'
  | .no => .no) := rfl
theorem e_ret (a : α) : ret a s = .ok a s := rfl
theorem e_stuck : (stuck : M α) s = .no := rfl
theorem e_some (a : α) : opt (some a) s = .ok a s := rfl
theorem e_none : opt (none : Option α) s = .no := rfl
theorem e_lookV : look (.val d k) s = .ok (d, k) s := rfl
theorem e_lookS : look (.slot i) s = (match s.r[i]? with
  | some (some sl) => .ok (sl.d, sl.k) s
  | _ => .no) := rfl
theorem e_flatV : flat (.val d k) s = if k ≤ 1 then .ok d s else .no := by
  show (if k ≤ 1 then ret d else stuck) s = _
  split <;> rfl
theorem e_flatS : flat (.slot i) s = (match s.r[i]? with
  | some (some sl) => if sl.k ≤ 1 then .ok sl.d s else .no
  | _ => .no) := by
  unfold flat bnd look
  dsimp only
  cases s.r[i]? with
  | none => rfl
  | some o =>
    cases o with
    | none => rfl
    | some sl =>
      dsimp only
      split <;> rfl
theorem e_ownV : own (.val d k) s = .ok (d, k) s := rfl
theorem e_ownS : own (.slot i) s = (match s.r[i]? with
  | some (some sl) => if fzOk sl.k sl.d then .ok (sl.d, 0) { s with r := s.r.set i (some { sl with k := 0 }) } else .no
  | _ => .no) := rfl
theorem e_movV : mov (.val d k) s = .ok (d, k) s := rfl
theorem e_movS : mov (.slot i) s = (match s.r[i]? with
  | some (some sl) => if sl.k = 0 then .ok (sl.d, 0) s else if sl.pin then own (.slot i) s else .ok (sl.d, sl.k) { s with r := s.r.set i none }
  | _ => .no) := rfl
theorem e_vr : vr i s = (match s.r[i]? with
  | some (some _) => .ok (.slot i) s
  | _ => .no) := rfl
theorem e_cn : cn d s = .ok (.val d 0) s := rfl
theorem e_bin (f : D → D → Option (D × Nat)) (a b : M Op) : bin f a b s = bnd a (fun x => bnd b fun y => bnd (flat x) fun d => bnd (flat y) fun e => bnd (opt (f d e)) fun r => ret (.val r.1 r.2)) s := rfl
theorem e_uno (f : D → Option (D × Nat)) (a : M Op) : uno f a s = bnd a (fun x => bnd (flat x) fun d => bnd (opt (f d)) fun r => ret (.val r.1 r.2)) s := rfl
theorem e_cmpV (f : D → D → Option Bool) (a b : M Op) : cmpV f a b s = bnd a (fun x => bnd b fun y => bnd (look x) fun d => bnd (look y) fun e => bnd (opt (f d.1 e.1)) fun c => ret (.val (.bl c) 0)) s := rfl
theorem e_cmpT (f : D → D → Option Bool) (a b : M Op) : cmpT f a b s = bnd a (fun x => bnd b fun y => bnd (look x) fun d => bnd (look y) fun e => opt (f d.1 e.1)) s := rfl
theorem e_truM (a : M Op) : truM a s = bnd a (fun x => bnd (look x) fun d => opt (truB d.1)) s := rfl
theorem e_notT (m : M Bool) : notT m s = bnd m (fun c => ret (!c)) s := rfl
theorem e_andT (a b : M Bool) : andT a b s = (match a s with
  | .ok c s' => if c then b s' else .ok false s'
  | .ex x s' => .ex x s'
  | .no => .no) := by
  unfold andT bnd
  cases a s with
  | ok c s' =>
    dsimp only
    cases c <;> rfl
  | ex x s' => rfl
  | no => rfl
theorem e_orT (a b : M Bool) : orT a b s = (match a s with
  | .ok c s' => if c then .ok true s' else b s'
  | .ex x s' => .ex x s'
  | .no => .no) := by
  unfold orT bnd
  cases a s with
  | ok c s' =>
    dsimp only
    cases c <;> rfl
  | ex x s' => rfl
  | no => rfl
theorem e_notV (a : M Op) : notV a s = bnd a (fun x => bnd (look x) fun d => bnd (opt (truB d.1)) fun c => ret (.val (.bl (!c)) 0)) s := rfl
theorem e_ifV (c : M Bool) (a b : M Op) : ifV c a b s = (match c s with
  | .ok k s' => if k then a s' else b s'
  | .ex x s' => .ex x s'
  | .no => .no) := by
  unfold ifV bnd
  cases c s with
  | ok c s' =>
    dsimp only
    cases c <;> rfl
  | ex x s' => rfl
  | no => rfl
theorem e_ifS (c : M Bool) (a b : M Flow) : ifS c a b s = (match c s with
  | .ok k s' => if k then a s' else b s'
  | .ex x s' => .ex x s'
  | .no => .no) := by
  unfold ifS bnd
  cases c s with
  | ok c s' =>
    dsimp only
    cases c <;> rfl
  | ex x s' => rfl
  | no => rfl
theorem e_seq (a b : M Flow) : seqM a b s = (match a s with
  | .ok f s' => (match f with
    | .nx => b s'
    | .bk => .ok .bk s'
    | .ct => .ok .ct s'
    | .rt d k => .ok (.rt d k) s')
  | .ex x s' => .ex x s'
  | .no => .no) := by
  unfold seqM bnd
  cases a s with
  | ok c s' =>
    dsimp only
    cases c <;> rfl
  | ex x s' => rfl
  | no => rfl
theorem e_st (f : D → Nat → M Unit) (m : M Op) : stM f m s = bnd m (fun o => bnd (own o) fun p => bnd (f p.1 p.2) fun _ => ret .nx) s := rfl
theorem e_rt (m : M Op) : rtM m s = bnd m (fun o => bnd (mov o) fun p => ret (.rt p.1 p.2)) s := rfl
theorem e_exM (m : M Op) : exM m s = bnd m (fun _ => ret .nx) s := rfl
theorem e_set : setM i d k s = (match s.r[i]? with
  | some (some sl) => if sl.pin then .no else .ok () { s with r := s.r.set i (some ⟨d, k, false⟩) }
  | some none => .ok () { s with r := s.r.set i (some ⟨d, k, false⟩) }
  | none => .no) := rfl
theorem e_idx (mo mi : M Op) : idxG mo mi d k s = noX (if fzOk k d then bnd mo (fun o => bnd mi fun y => bnd (flat y) fun key => setAt o key d) s else .no) := by
  unfold idxG
  split <;> rfl
theorem e_noX (a : α) : noX (.ok a s) = .ok a s := rfl
theorem e_setAt (key : D) : setAt (.slot i) key d s = (match s.r[i]? with
    | some (some ⟨.lst ds, 1, p⟩) => match key with
      | .int k => match ixN ds.length k with
        | some j => .ok () { s with r := s.r.set i (some ⟨.lst (ds.set j d), 1, p⟩) }
        | none => .no
      | _ => .no
    | some (some ⟨.dct kvs, 1, p⟩) => match keyOf key with
      | some k => if kvs.length < cap then .ok () { s with r := s.r.set i (some ⟨.dct (putD kvs k d), 1, p⟩) } else .no
      | none => .no
    | _ => .no) := rfl
theorem e_evN : evN s = .ok [] s := rfl
theorem e_evC (m : M Op) (ms : M (List Op)) : evC m ms s = bnd m (fun o => bnd ms fun os => ret (o :: os)) s := rfl
theorem e_flats0 : flats [] s = .ok [] s := rfl
theorem e_flats (o : Op) (os : List Op) : flats (o :: os) s = bnd (flat o) (fun d => bnd (flats os) fun ds => ret (d :: ds)) s := rfl
theorem e_fzo (o : Op) : fzo o s = bnd (own o) (fun p => if fzOk p.2 p.1 then ret p.1 else stuck) s := rfl
theorem e_fzos0 : fzos [] s = .ok [] s := rfl
theorem e_fzos (o : Op) (os : List Op) : fzos (o :: os) s = bnd (fzo o) (fun d => bnd (fzos os) fun ds => ret (d :: ds)) s := rfl
theorem e_blt (f : List D → Option (D × Nat)) (ms : M (List Op)) : bltM f ms s = bnd ms (fun os => bnd (flats os) fun ds => bnd (opt (f ds)) fun r => ret (.val r.1 r.2)) s := rfl
theorem e_tup (ms : M (List Op)) : tupM ms s = bnd ms (fun os => bnd (fzos os) fun ds => if ds.length ≤ cap then ret (.val (.tup ds) 0) else stuck) s := rfl
theorem e_lst (ms : M (List Op)) : lstM ms s = bnd ms (fun os => bnd (fzos os) fun ds => if ds.length ≤ cap then ret (.val (.lst ds) 1) else stuck) s := rfl
theorem e_call (f : Fn) (np : Nat) (dfl : List D) (ms : M (List Op)) : callM f np dfl ms s = (match ms s with
  | .ok os s1 => if os.length + dfl.length = np then (match gth os s1.r with
    | none => .no
    | some (args, r') => match f (args.map (·.1) ++ dflS dfl) s1.S with
      | .ok d k outs S' => .ok (.val d k) ⟨fill args outs r', S'⟩
      | .ex x outs S' => .ex x ⟨fill args outs r', S'⟩
      | .no => .no) else .no
  | .ex x s1 => .ex x s1
  | .no => .no) := by
  unfold callM bnd
  cases ms s with
  | ok os s1 =>
    dsimp only
    split <;> rfl
  | ex x s1 => rfl
  | no => rfl
theorem e_gth0 (r : List (Option Slot)) : gth [] r = some ([], r) := rfl
theorem e_gthV (os : List Op) (r : List (Option Slot)) : gth (.val d k :: os) r = (gth os r).map fun p => ((⟨d, k, false⟩, none) :: p.1, p.2) := rfl
theorem e_gthS (os : List Op) (r : List (Option Slot)) : gth (.slot i :: os) r = (match r[i]? with
    | some (some sl) => if sl.k = 0 then (gth os r).map fun p => ((⟨sl.d, 0, false⟩, none) :: p.1, p.2)
      else (gth os (r.set i none)).map fun p => ((⟨sl.d, sl.k, true⟩, some (i, sl.pin)) :: p.1, p.2)
    | _ => none) := rfl
theorem e_fn (n : Nat) (body : M Flow) (args : List Slot) (S : List Inst) : mkFn n body args S = (match body ⟨args.map some ++ List.replicate (n - args.length) none, S⟩ with
  | .ok f s' => match f with
    | .rt d k => if pinsOk args (s'.r.take args.length) then .ok d k (s'.r.take args.length) s'.S else .no
    | .nx => if pinsOk args (s'.r.take args.length) then .ok .non 0 (s'.r.take args.length) s'.S else .no
    | .bk => .no
    | .ct => .no
  | .ex x s' => if pinsOk args (s'.r.take args.length) then .ex x (s'.r.take args.length) s'.S else .no
  | .no => .no) := by
  unfold mkFn
  cases body ⟨args.map some ++ List.replicate (n - args.length) none, S⟩ with
  | ok f s' => cases f <;> rfl
  | ex x s' => rfl
  | no => rfl
theorem e_for (src : M Src) (f : D → Nat → M Unit) (b : M Flow) : forM src f b s = (match src s with
  | .ok z s1 => (match z with
    | .fix ds => forL f b ds s1
    | .bor i g => unpS s1.r (forB f b i g (lenAt s1 i) (lenAt s1 i) (pinS i s1)))
  | .ex x s1 => .ex x s1
  | .no => .no) := by
  unfold forM bnd
  cases src s with
  | ok z s1 => cases z <;> rfl
  | ex x s1 => rfl
  | no => rfl
theorem e_src (m : M Op) : srcM m s = bnd m srcOf s := rfl
theorem e_rng1 (ms : M (List Op)) : rng1 ms s = bnd ms (fun os => bnd (flats os) fun ds => match ds with
  | [.int j] => if in62 j then ret (.fix (rngD 0 j.toNat)) else stuck
  | _ => stuck) s := rfl
end
end Mi

set_option Elab.async false
set_option linter.all false
set_option maxRecDepth 100000
set_option maxHeartbeats 4000000
namespace Mi
open PySem L2

/-! ### loops, by what holds between the turns -/
theorem forL_ok {f : D → Nat → M Unit} {b : M Flow} {ds : List D} {s : Sx} (I : Nat → Sx → Prop) (h : ∀ i d s, ds[i]? = some d → I i s → ∃ s1 s2, f d 0 s = .ok () s1 ∧ (b s1 = .ok .nx s2 ∨ b s1 = .ok .ct s2) ∧ I (i + 1) s2) (h0 : I 0 s) :
    ∃ s', forL f b ds s = .ok .nx s' ∧ I ds.length s' := by
  have key : ∀ (es : List D) (i : Nat) (s : Sx), ds.drop i = es → i + es.length = ds.length → I i s → ∃ s', forL f b es s = .ok .nx s' ∧ I ds.length s' := by
    intro es
    induction es with
    | nil =>
      intro i s _ hl hi
      refine ⟨s, rfl, ?_⟩
      rw [← hl]
      exact hi
    | cons d es ih =>
      intro i s hd hl hi
      have hdi : ds[i]? = some d := by
        have : (ds.drop i)[0]? = some d := by rw [hd]; rfl
        rw [List.getElem?_drop] at this
        simpa using this
      obtain ⟨s1, s2, h1, h2, h3⟩ := h i d s hdi hi
      have hd' : ds.drop (i + 1) = es := by
        rw [← List.drop_drop, hd]
        rfl
      obtain ⟨s', h4, h5⟩ := ih (i + 1) s2 hd' (by simp only [List.length_cons] at hl; omega) h3
      refine ⟨s', ?_, h5⟩
      show turnM f b d (forL f b es) s = _
      unfold turnM bnd
      rw [h1]
      dsimp only
      rcases h2 with h2 | h2 <;> rw [h2] <;> exact h4
  exact key ds 0 s rfl (by simp) h0
/-- a loop that may end by a return -/
theorem forL_rt {f : D → Nat → M Unit} {b : M Flow} {ds : List D} {s : Sx} (I : Nat → Sx → Prop) (Rt : D → Nat → Sx → Prop) (h : ∀ i d s, ds[i]? = some d → I i s → ∃ s1 s2, f d 0 s = .ok () s1 ∧ (((b s1 = .ok .nx s2 ∨ b s1 = .ok .ct s2) ∧ I (i + 1) s2) ∨ ∃ v k, b s1 = .ok (.rt v k) s2 ∧ Rt v k s2)) (h0 : I 0 s) :
    ∃ s', (forL f b ds s = .ok .nx s' ∧ I ds.length s') ∨ ∃ v k, forL f b ds s = .ok (.rt v k) s' ∧ Rt v k s' := by
  have key : ∀ (es : List D) (i : Nat) (s : Sx), ds.drop i = es → i + es.length = ds.length → I i s → ∃ s', (forL f b es s = .ok .nx s' ∧ I ds.length s') ∨ ∃ v k, forL f b es s = .ok (.rt v k) s' ∧ Rt v k s' := by
    intro es
    induction es with
    | nil =>
      intro i s _ hl hi
      refine ⟨s, .inl ⟨rfl, ?_⟩⟩
      rw [← hl]
      exact hi
    | cons d es ih =>
      intro i s hd hl hi
      have hdi : ds[i]? = some d := by
        have : (ds.drop i)[0]? = some d := by rw [hd]; rfl
        rw [List.getElem?_drop] at this
        simpa using this
      have hd' : ds.drop (i + 1) = es := by
        rw [← List.drop_drop, hd]
        rfl
      have et : forL f b (d :: es) s = turnM f b d (forL f b es) s := rfl
      rw [et]
      unfold turnM bnd
      obtain ⟨s1, s2, h1, ⟨h2, h3⟩ | ⟨v, k, h2, h3⟩⟩ := h i d s hdi hi
      · obtain ⟨s', h4⟩ := ih (i + 1) s2 hd' (by simp only [List.length_cons] at hl; omega) h3
        refine ⟨s', ?_⟩
        rw [h1]
        dsimp only
        rcases h2 with h2 | h2 <;> rw [h2] <;> exact h4
      · refine ⟨s2, .inr ⟨v, k, ?_, h3⟩⟩
        rw [h1]
        dsimp only
        rw [h2]
        rfl
  exact key ds 0 s rfl (by simp) h0
theorem lcG_ok {ds : List D} {step : D → M (Option D)} {vs : List Nat} {s : Sx} (I : Nat → List D → Sx → Prop) (hl : ds.length ≤ cap)
    (h : ∀ i d s acc, ds[i]? = some d → I i acc s → acc.length ≤ i → ∃ xo s1, step d s = .ok xo s1 ∧ I (i + 1) (acc ++ xo.toList) { s1 with r := wipeR s1.r vs }) (h0 : I 0 [] s) :
    ∃ acc s', lcG (fun j => opt ds[j]?) (ret ()) step vs ds.length ds.length [] s = .ok acc s' ∧ I ds.length acc s' := by
  have key : ∀ (r i : Nat) (s : Sx) (acc : List D), i + r = ds.length → acc.length ≤ i → I i acc s → ∃ acc' s', lcG (fun j => opt ds[j]?) (ret ()) step vs ds.length r acc s = .ok acc' s' ∧ I ds.length acc' s' := by
    intro r
    induction r with
    | zero =>
      intro i s acc hi _ hI
      refine ⟨acc, s, rfl, ?_⟩
      rw [← hi]
      exact hI
    | succ r ih =>
      intro i s acc hi ha hI
      have hlt : i < ds.length := by omega
      obtain ⟨xo, s1, h1, h2⟩ := h i ds[i] s acc (List.getElem?_eq_getElem hlt) hI ha
      obtain ⟨acc', s', h3, h4⟩ := ih (i + 1) _ (acc ++ xo.toList) (by omega) (by
        rw [List.length_append]
        cases xo <;> simp <;> omega) h2
      refine ⟨acc', s', ?_, h4⟩
      unfold lcG bnd
      rw [show ds.length - (r + 1) = i by omega, List.getElem?_eq_getElem hlt]
      show (match step ds[i] s with
        | .ok x s1 => if acc.length < cap then lcG (fun j => opt ds[j]?) (ret ()) step vs ds.length r (acc ++ x.toList) { s1 with r := wipeR s1.r vs } else .no
        | _ => .no) = _
      rw [h1]
      dsimp only
      rw [if_pos (by omega)]
      exact h3
  exact key ds.length 0 s [] (by omega) (Nat.le_refl _) h0
theorem e_lc {src : M Src} {f : D → Nat → M Unit} {c : M Bool} {e : M Op} {vs : List Nat} {s s1 : Sx} {ds : List D} (h : src s = .ok (.fix ds) s1) (ho : okOwn s1.r vs = true) : lcM src f c e vs s =
    (match lcG (fun j => opt ds[j]?) (ret ()) (stepM f c e) vs ds.length ds.length [] { s1 with r := wipeR s1.r vs } with
    | .ok acc s' => .ok (.val (.lst acc) 1) { s' with r := backR s1.r s'.r vs }
    | _ => .no) := by
  unfold lcM bnd
  rw [h]
  dsimp only
  rw [ho]
  rfl
/-- each item's value is told by g -/
theorem lc_fn {src : M Src} {f : D → Nat → M Unit} {c : M Bool} {e : M Op} {vs : List Nat} {s s1 : Sx} {ds : List D} (g : D → D) (h : src s = .ok (.fix ds) s1) (ho : okOwn s1.r vs = true) (hl : ds.length ≤ cap)
    (hs : ∀ d, d ∈ ds → ∃ s2, stepM f c e d { s1 with r := wipeR s1.r vs } = .ok (some (g d)) s2 ∧ wipeR s2.r vs = wipeR s1.r vs ∧ s2.S = s1.S) :
    lcM src f c e vs s = .ok (.val (.lst (ds.map g)) 1) { s1 with r := backR s1.r (wipeR s1.r vs) vs } := by
  rw [e_lc h ho]
  obtain ⟨acc, s', h1, h2, h3⟩ := lcG_ok (ds := ds) (step := stepM f c e) (vs := vs) (s := { s1 with r := wipeR s1.r vs }) (fun i acc s => acc = (ds.take i).map g ∧ s = { s1 with r := wipeR s1.r vs }) hl (fun i d s acc hd hI _ => by
    obtain ⟨rfl, rfl⟩ := hI
    obtain ⟨s2, k1, k2, k3⟩ := hs d (List.mem_of_getElem? hd)
    refine ⟨some (g d), s2, k1, ?_, ?_⟩
    · have hlt : i < ds.length := (List.getElem?_eq_some_iff.mp hd).1
      rw [List.take_succ, hd]
      simp
    · rw [k2, k3]) ⟨by simp, rfl⟩
  rw [h1]
  dsimp only
  subst h3
  rw [h2, List.take_length]
end Mi

set_option Elab.async false
set_option linter.all false
set_option maxRecDepth 100000
set_option maxHeartbeats 4000000
namespace Mi
open PySem L2

/-! ### is a text a key of a module's dict -/
def inkF (tab : List (Str × Str)) (x : Str) : D → D → Option Bool
  | .str z, .glb y => if y = x then (if (tab.lookup z).isSome then some true else none) else none
  | _, _ => none
def KInR (K : PySem.W.Frag) (w : World) (x : Str) : R2 := fun a b H Q => ∃ es n z, ∃ (r : Option Value), a = .str z ∧ b = .ref (He.ga K x) ∧ KDict K w (He.ga K x) es n ∧ PySem.W.nsIn K (He.ga K x) z = some r ∧ Q (.bl r.isSome) H
section
variable {X : Cx} {wx : WX}
theorem op_kin {x : Str} : L2.OpR X (compareOp .In) (KInR X.K X.w x) := by
  intro pins s σ H a b v u Q I ra rb h
  obtain ⟨es, n, z, r, rfl, rfl, kd, e, q⟩ := h
  exact op_in_kd kd pins s σ H _ _ v u Q I ra rb ⟨z, r, rfl, rfl, e, q⟩
theorem bin_kin {x : Str} {tab : List (Str × Str)} (kn : ∀ z, (tab.lookup z).isSome = true → ∃ es n u, KDict X.K X.w (He.ga X.K x) es n ∧ PySem.W.nsIn X.K (He.ga X.K x) z = some (some u)) : BinB X (KInR X.K X.w x) (inkF tab x) := by
  intro w d e a b c Q ok h1 h2 ef q
  unfold inkF at ef
  split at ef
  · rename_i z y
    split at ef
    · rename_i hy
      split at ef
      · rename_i hz
        cases ef
        obtain ⟨es, n, u, kd, hn⟩ := kn z hz
        have ea : a = .str z := h1
        have eb : b = .ref (He.ga X.K y) := h2
        rw [hy] at eb
        exact ⟨es, n, z, some u, ea, eb, kd, hn, q⟩
      · cases ef
    · cases ef
  · cases ef
theorem ce_ink {x : Str} {tab : List (Str × Str)} {a b : Expr} {ma mb : M Op} {pos : Pos} (kn : ∀ z, (tab.lookup z).isSome = true → ∃ es n u, KDict X.K X.w (He.ga X.K x) es n ∧ PySem.W.nsIn X.K (He.ga X.K x) z = some (some u)) (ha : CE X wx a ma) (hb : CE X wx b mb) (hm : behindInMarks .In b = false := by rfl) :
    CE X wx (.Compare a [.In] [b] pos) (cmpV (inkF tab x) ma mb) := ce_cmp op_kin (bin_kin kn) ha hb hm

/-! ### a dict that is handed on is locked -/
def frzM (m : M Op) : M Op := bnd m fun o => match o with
  | .val (.dct kvs) 1 => ret (.val (.dct kvs) 0)
  | o => ret o
def tLock (t : TE) : TE := fun σ H Q => t σ H fun v H1 => Q v H1 ∨ ∃ d u, H1 d = some u ∧ Mut (some u) ∧ ∀ od, Q v (upd H1 d (.frz od u))
theorem pe_lock {e : Expr} {t : TE} (he : PE X e t) : PE X e (tLock t) := by
  refine ⟨fun pins s σ H Q I h => ?_⟩
  refine thn (he.run pins s σ H _ I h) fun v s1 ⟨x, H1, I1, r1, q1⟩ => ?_
  rcases q1 with q | ⟨d, u, hd, mu, q⟩
  · exact ⟨x, H1, I1, r1, q⟩
  · obtain ⟨od, I2⟩ := I1.lock hd mu
    exact ⟨x, _, I2, r1, q od⟩
variable {s0 st : St} {s s' : Sx} {w w0 w1 : Wd} {fp fp0 fp1 fo g : List Addr}
theorem ce_frz {e : Expr} {m : M Op} (he : CE X wx e m) : CE X wx e (frzM m) := by
  refine ⟨fun s0 s st w fp Q R hp => ⟨_, pe_lock pe_W, ?_⟩⟩
  refine he.go R (Stp.refl R.ok) hp fun o s1 v w1 f1 fp1 R1 r1 n1 S1 hp1 => ?_
  have plain : Post X wx (RE X.K st) s0 st w fp (ret o s1) Q → (Q v w1.H ∨ ∃ d u, w1.H d = some u ∧ Mut (some u) ∧ ∀ od, Q v (upd w1.H d (.frz od u))) := fun hp => .inl (hp v w1 f1 fp1 R1 r1 n1 S1)
  cases o with
  | slot i => exact plain hp1
  | val d k =>
    cases d with
    | dct kvs =>
      match k, r1, hp1, plain with
      | 0, r1, hp1, plain => exact plain hp1
      | 1, r1, hp1, _ =>
        have hdis := nd_dis n1
        obtain ⟨p, kv, g', e1, h1, hn1, e2, t⟩ := r1
        refine .inr ⟨p, .dK kv, h1, trivial, fun od => ?_⟩
        have hm : p ∈ f1 := by rw [e2]; exact List.mem_cons_self ..
        have R' := rel_lck (u := .frz od (.dK kv)) R1 hn1 (hdis p hm)
        have S' : Stp w fp (w1.lck p (.frz od (.dK kv))) fp1 := S1.trans (lck_stp R1.ok (List.mem_append_left _ hm) hn1 fun x m => List.mem_append_right _ m)
        have hp2 : Post X wx (RE X.K st) s0 st w fp (ret (.val (.dct kvs) 0) s1) Q := hp1
        refine hp2 v (w1.lck p (.frz od (.dK kv))) [] fp1 R' ⟨⟨p, kv, e1, ⟨od, upd_same⟩, ?_⟩, rfl⟩ R'.nd S'
        exact VxD.mono ((lck_stp (fp' := []) R1.ok (List.mem_singleton_self p) hn1 fun x m => nomatch m).fz) _ _ (all0D t)
      | k + 2, r1, hp1, plain => exact plain hp1
    | _ => exact plain hp1
end
end Mi
namespace Mi
open PySem L2
/-! ### a text, several times -/
def repS (z : Str) (n : Nat) : Str := ⟨(List.replicate n z.cps).foldl (· ++ ·) #[]⟩
theorem rep_fold (c : Array Nat) : ∀ (n : Nat) (acc : Array Nat), ((List.replicate n c).foldl (· ++ ·) acc).toList = acc.toList ++ (List.replicate n c.toList).flatten
  | 0, acc => by simp
  | n + 1, acc => by
    rw [List.replicate_succ, List.foldl_cons, rep_fold c n, List.replicate_succ, List.flatten_cons, Array.toList_append, List.append_assoc]
theorem repS_tl (z : Str) (n : Nat) : (repS z n).cps.toList = (List.replicate n z.cps.toList).flatten := by
  show ((List.replicate n z.cps).foldl (· ++ ·) #[]).toList = _
  rw [rep_fold]
  rfl
theorem repS_len (z : Str) (n : Nat) : (repS z n).length = n * z.length := by
  show (repS z n).cps.size = _
  rw [← Array.length_toList, repS_tl, List.length_flatten, List.map_replicate, List.sum_replicate_nat]
  rfl
def mulS : D → D → Option (D × Nat)
  | .str z, .int k => if 2 ≤ k ∧ k ≤ 1000 ∧ 1 ≤ z.length ∧ z.length ≤ 1000 then some (.str (repS z k.toNat), 0) else none
  | _, _ => none
def rMulS : R2 := fun x y H Q => ∃ z k, x = .str z ∧ y = .int k ∧ 2 ≤ k ∧ k ≤ 1000 ∧ 1 ≤ z.length ∧ z.length ≤ 1000 ∧ Q (.str (repS z k.toNat)) H
section
variable {X : Cx} {wx : WX}
theorem op_mulS : L2.OpR X (binaryOp .Mult) rMulS := by
  intro pins s σ H x y v u Q I rx ry h
  obtain ⟨z, k, rfl, rfl, h1, h2, h3, h4, q⟩ := h
  obtain ⟨t, rfl⟩ := rx
  obtain ⟨t', rfl⟩ := ry
  have hk : ¬ k < 1 := by omega
  have hz : (k == 1 || z.length == 0) = false := by
    rw [Bool.or_eq_false_iff]
    constructor
    · exact beq_eq_false_iff_ne.mpr (by omega)
    · exact beq_eq_false_iff_ne.mpr (by omega)
  refine PySem.P.mul_str ?_ (fun _ _ => ?_) (fun _ _ => ?_) ?_
  · rw [decide_eq_false (by omega), decide_eq_false (by omega)]
    rfl
  · have h5 : (1000 : Int) ≤ (2 ^ 63 - 1) / k := by
      rw [Int.le_ediv_iff_mul_le (by omega)]
      have : 1000 * k ≤ 1000 * 1000 := Int.mul_le_mul_of_nonneg_left h2 (by decide)
      exact Int.le_trans this (by decide)
    omega
  · unfold Builtin.Str.tooLong
    have h6 : z.length * k.toNat ≤ 1000 * 1000 := Nat.mul_le_mul h4 (by omega)
    have h7 : 1000 * 1000 ≤ sizeLine := by decide
    exact decide_eq_false (by omega)
  · rw [if_neg hk, hz]
    refine ⟨?_, ?_⟩
    · show (repS z k.toNat).length ≤ sizeLine
      rw [repS_len]
      have h6 : k.toNat * z.length ≤ 1000 * 1000 := Nat.mul_le_mul (by omega) h4
      have h7 : 1000 * 1000 ≤ sizeLine := by decide
      omega
    · exact ⟨.str (repS z k.toNat), H, I.tok _, ⟨_, rfl⟩, q⟩
theorem bin_mulS : Bin X rMulS mulS := by
  intro w d e x y o k Q ok hx hy ef r
  unfold mulS at ef
  split at ef
  · split at ef
    · rename_i h
      cases ef
      rw [show x = _ from hx, show y = _ from hy]
      exact ⟨_, _, rfl, rfl, h.1, h.2.1, h.2.2.1, h.2.2.2, r.str ok⟩
    · cases ef
  · cases ef
theorem ce_mulS {a b : Expr} {ma mb : M Op} {pos : Pos} (ha : CE X wx a ma) (hb : CE X wx b mb) : CE X wx (.BinOp a .Mult b pos) (bin mulS ma mb) := ce_bin op_mulS bin_mulS ha hb
end
end Mi

set_option Elab.async false
set_option linter.all false
set_option maxRecDepth 100000
set_option maxHeartbeats 4000000
namespace Mi
open PySem L2 PyProof.Rows

/-! ### min and sorted of a dict with text keys, any number of them -/
theorem strs_lt {prog : Program} {w : World} {A : Around} {P : Nat → Value → Prop} (val : Nat → Str) (hval : ∀ i v, P i v → ∃ t, v = .str (val i) t) :
    CmpOf prog w A .Lt P (fun i j => decide ((val i).cps.toList < (val j).cps.toList)) := fun i j vi vj s Q E hi hj h => by
  obtain ⟨t, rfl⟩ := hval i vi hi
  obtain ⟨u, rfl⟩ := hval j vj hj
  exact richCompare_gives (op := .Lt) (typeIs_str s _ t) (typeIs_str s _ u) F.slot_str_lt F.entry_str_lt (F.args_str_lt_2 _ _) (gives_str_lt _ _ t u) (fun x => nomatch x) h
theorem best_str (val : Nat → Str) : ∀ k, argBest (fun i j => decide ((val i).cps.toList < (val j).cps.toList)) k ≤ k ∧ ∀ j, j ≤ k → ¬ (val j).cps.toList < (val (argBest (fun i j => decide ((val i).cps.toList < (val j).cps.toList)) k)).cps.toList
  | 0 => ⟨Nat.le_refl _, fun j hj => by
    have : j = 0 := by omega
    subst this
    exact List.lt_irrefl _⟩
  | k + 1 => by
    obtain ⟨h1, h2⟩ := best_str val k
    simp only [argBest]
    by_cases hc : (val (k + 1)).cps.toList < (val (argBest (fun i j => decide ((val i).cps.toList < (val j).cps.toList)) k)).cps.toList
    · rw [if_pos (decide_eq_true hc)]
      refine ⟨Nat.le_refl _, fun j hj => ?_⟩
      by_cases hj2 : j = k + 1
      · rw [hj2]
        exact List.lt_irrefl _
      · intro hlt
        exact h2 j (by omega) (List.lt_trans hlt hc)
    · rw [if_neg (by simpa using hc)]
      refine ⟨Nat.le_succ_of_le h1, fun j hj => ?_⟩
      by_cases hj2 : j = k + 1
      · rw [hj2]
        exact hc
      · exact h2 j (by omega)
section
variable {X : Cx}
def rMinSD : List V → Hp → VK → Prop := fun vs H Q => ∃ (a : Addr) (kvs : List (Key × V)) (ss : List Str), vs = [V.ref a] ∧ Rd H a (.dK kvs) ∧ kvs.map (·.1) = ss.map Sum.inr ∧ ss ≠ [] ∧ ∀ m, m ∈ ss → (∀ j ∈ ss, ¬ j.cps.toList < m.cps.toList) → Q (.str m) H
theorem cr_minSD (hc : X.calm = true) : CallR X (.builtin "min") rMinSD := by
  intro pins s σ H vs us Q I r h
  obtain ⟨a, kvs, ss, rfl, ha, hv, hne, q⟩ := h
  rw [Vals.ref1 r]
  obtain ⟨_, hsys, vs, rel, dof⟩ := dk_rd I.hok ha
  obtain ⟨ep, dat⟩ := dof.dictAt
  obtain ⟨ob, es, ho, hex, hdat, hko, hpr, hnd⟩ := id dat
  have hlt : a < s.heap.objs.size := Heap.lt_size ho
  have hkeys : vs.map (·.1) = ss.map Sum.inr := (KV.keys rel).symm.trans hv
  have hlv : vs.length = ss.length := by
    have e1 := congrArg List.length hkeys
    rw [List.length_map, List.length_map] at e1
    exact e1
  have hlen : 0 < vs.length := by
    rw [hlv]
    exact List.length_pos_iff.mpr hne
  have hval : ∀ (i : Nat) (v : Value), (∃ k x, vs[i]? = some (k, x) ∧ (mixKind X.prog X.w).is k v = true) → ∃ t, v = Value.str (ss.getD i ⟨#[]⟩) t := fun i v ⟨k, x, hk, hkey⟩ => by
    have e1 : (vs.map (·.1))[i]? = some k := by rw [List.getElem?_map, hk] <;> rfl
    rw [hkeys, List.getElem?_map] at e1
    obtain ⟨j, hj, e2⟩ := Option.map_eq_some_iff.mp e1
    subst e2
    have hi : Value.isStrOf j v = true := hkey
    obtain ⟨t, e3⟩ := Value.isStrOf_shape (x := j) (v := v) hi
    refine ⟨t, ?_⟩
    rw [e3, List.getD_eq_getElem?_getD, hj] <;> rfl
  refine call_min_walk (wpAny_pyIter_dict (knd := mixKind X.prog X.w) hsys dat ?_)
  refine ⟨_, _, _, _, _, _, _, rfl, Walks.dictKeys (knd := mixKind X.prog X.w) (A := X.A.in1) (I.ok.hd hc) s.heap.objs.size a (Nat.ne_of_lt hlt) vs ep,
    ⟨⟨_, Heap.get?_push_size _ rfl, rfl, rfl⟩, dat.keep fun b u e => Heap.get?_push_of_some _ e⟩, fun b hb => ?_, hlen, strs_lt (fun i => ss.getD i ⟨#[]⟩) hval, fun v h' tk hP hk => ?_⟩
  · show b < (s.heap.push _).objs.size
    rw [Heap.size_push]
    rcases List.mem_cons.mp hb with e | hb
    · rw [e]
      exact Nat.lt_succ_self _
    · rw [List.mem_singleton.mp hb]
      exact Nat.lt_succ_of_lt hlt
  · obtain ⟨t, rfl⟩ := hval _ v hP
    obtain ⟨b1, b2⟩ := best_str (fun i => ss.getD i ⟨#[]⟩) (vs.length - 1)
    refine ⟨.str _, H, I.kept (t' := tk) fun b u e => hk b u (fun hmem => ?_) (Heap.get?_push_of_some _ e), ⟨t, rfl⟩, q _ ?_ fun j hj => ?_⟩
    · have e1 : b = s.heap.objs.size := List.mem_singleton.mp hmem
      have e2 := Heap.lt_size e
      rw [e1] at e2
      exact absurd e2 (Nat.lt_irrefl _)
    · have hb : argBest (fun i j => decide ((ss.getD i ⟨#[]⟩).cps.toList < (ss.getD j ⟨#[]⟩).cps.toList)) (vs.length - 1) < ss.length := by omega
      rw [List.getD_eq_getElem?_getD, List.getElem?_eq_getElem hb]
      exact List.getElem_mem hb
    · obtain ⟨i, hi, e⟩ := List.mem_iff_getElem.mp hj
      have e2 : ss.getD i ⟨#[]⟩ = j := by rw [List.getD_eq_getElem?_getD, List.getElem?_eq_getElem hi, ← e] <;> rfl
      rw [← e2]
      exact b2 i (by omega)
def rSortSD : List V → Hp → VK → Prop := fun xs H Q => ∃ (a : Addr) (kvs : List (Key × V)) (ks : List Str), xs = [.ref a] ∧ Rd H a (.dK kvs) ∧ kvs.map (·.1) = ks.map Sum.inr ∧
    ∀ ys p, ys.Perm ks → sortedS ys = true → H p = none → Q (.ref p) (upd H p (.lst (ys.map V.str)))
theorem call_sortSD (hcalm : X.calm = true) : CallR X (.builtin "sorted") rSortSD := by
  intro pins s σ H xs us Q I r q
  obtain ⟨a, kvs, ks, ex, hd, hks, q⟩ := q
  subst ex
  obtain ⟨u, eu, rx⟩ := vals1 r
  subst eu
  cases rx
  obtain ⟨z, lo, vs, rel, dd⟩ := dk_rd I.hok hd
  obtain ⟨ep, hat⟩ := dd.dictAt
  have hkeys : vs.map (·.1) = ks.map Sum.inr := rel.keys.symm.trans hks
  have hl : vs.length = ks.length := by
    have e := congrArg List.length hkeys
    rw [List.length_map, List.length_map] at e
    exact e
  have h16 : vs.length ≤ sizeLine := by rw [← rel.length]; exact z
  refine Calls.call_function_entry PyProof.Rows.kind_sorted PyProof.Rows.plain_sorted PyProof.Rows.entry_sorted (PyProof.Rows.args_sorted1 _) ?_
  unfold Builtin.«sorted»
  refine wpAny_bind (m := checkCount "sorted" 1 1 _) (wpAny_pure ?_)
  refine wpAny_bind (PySem.W.kdu_collect (A := X.A.in1) (PySem.W.kdl_dict (knd := mixKind X.prog X.w) (kvs := vs) (ep := ep) lo) (I.ok.hd hcalm) hat h16 fun h' tk acc hk hacc => ?_)
  have hal : acc.toList.length = ks.length := by rw [Array.length_toList, hacc.1, hl]
  have hS : StrsAre acc.toList ks := strs_at hal fun j v e => by
    obtain ⟨k, x, e1, e2⟩ := hacc.2 j v (by rw [← Array.getElem?_toList]; exact e)
    have e3 : (vs.map (·.1))[j]? = some k := by rw [List.getElem?_map, e1]; all_goals rfl
    rw [hkeys, List.getElem?_map] at e3
    cases e4 : ks[j]? with
    | none => rw [e4] at e3; cases e3
    | some y =>
      rw [e4] at e3
      have e5 : Sum.inr y = k := Option.some.inj e3
      subst e5
      obtain ⟨t, ev⟩ := Value.isStrOf_shape (x := y) (v := v) e2
      exact ⟨y, t, rfl, ev⟩
  have I1 : Inv X pins σ H { s with heap := h', toks := tk } := I.kept hk
  have hks' : ks.length ≤ sizeLine := by rw [← hl]; exact h16
  refine wpAny_bind (wpAny_newList ?_ (by rw [hal]; exact hks'))
  have hoL : (h'.push (seqObj "list" acc.toList.toArray 0)).get? h'.objs.size = some (seqObj "list" acc.toList.toArray 0) := Heap.get?_push_size _ rfl
  show wpAny _ _ _ _ _ { s with heap := h'.push (seqObj "list" acc.toList.toArray 0), toks := tk }
  refine wpAny_bind (wpAny_holding (wpAny_call_entry PyProof.Rows.slot_list_sort ⟨_, hoL, rfl⟩ PyProof.Rows.entry_list_sort
    (list_sort_treeKAny strKind_oneLt (s := { s with heap := h'.push (seqObj "list" acc.toList.toArray 0), toks := tk }) hoL hS.keysOf (fun v₁ v₂ rest e => keyKind_strs (by rw [← e]; exact hS)) (by rw [hal]; exact hks') fun st' hp hs => ⟨_, rfl, ?_⟩)
    (PyProof.Rows.args_list_sort _)))
  obtain ⟨ys, g1, g2, g3⟩ := sorted_out_str hS hp hs
  obtain ⟨e', he'⟩ := PyProof.Rows.sortedHeap_at (vs := acc.toList) (out := (arrOf st').map (·.2)) hoL
  have hlen : (ys.map V.str).length ≤ sizeLine := by
    rw [List.length_map, g2.length_eq]
    exact hks'
  refine wpAny_pure ⟨_, rfl, .ref h'.objs.size, upd H h'.objs.size (.lst (ys.map V.str)), I1.laid (t' := tk) (fun b u e => ?_) (Nat.le_refl _)
    (show ObjOk X.prog X.w _ _ _ (.lst (ys.map V.str)) from ⟨hlen, ((arrOf st').map (·.2)).toList, e', vals_of_strs g1, by rw [Array.toArray_toList]; exact he'⟩), rfl, q ys _ g2 g3 (I1.hok.fresh (Nat.le_refl _))⟩
  have hb : b < h'.objs.size := Heap.lt_size e
  rw [PyProof.Rows.sortedHeap_old (Nat.ne_of_lt hb) (by rw [size_push']; exact Nat.lt_succ_of_lt hb)]
  exact Heap.get?_push_of_some _ e
end
/-- the least of texts -/
def minS : List Str → Option Str
  | [] => none
  | [x] => some x
  | x :: xs => (minS xs).map fun y => if y.cps.toList < x.cps.toList then y else x
theorem minS_ok : ∀ {ss : List Str} {m : Str}, minS ss = some m → m ∈ ss ∧ ∀ y ∈ ss, ¬ y.cps.toList < m.cps.toList
  | [], _, h => by cases h
  | [x], m, h => by
    cases h
    exact ⟨List.mem_cons_self .., fun y hy => by rw [List.mem_singleton.mp hy]; exact List.lt_irrefl _⟩
  | x :: z :: zs, m, h => by
    obtain ⟨n, h1, h2⟩ := Option.map_eq_some_iff.mp (show (minS (z :: zs)).map _ = some m from h)
    obtain ⟨k1, k2⟩ := minS_ok h1
    by_cases hc : n.cps.toList < x.cps.toList
    · rw [if_pos hc] at h2
      subst h2
      refine ⟨List.mem_cons_of_mem _ k1, fun y hy => ?_⟩
      rcases List.mem_cons.mp hy with rfl | hy
      · exact fun hlt => List.lt_irrefl _ (List.lt_trans hlt hc)
      · exact k2 y hy
    · rw [if_neg hc] at h2
      subst h2
      refine ⟨List.mem_cons_self .., fun y hy => ?_⟩
      rcases List.mem_cons.mp hy with rfl | hy
      · exact List.lt_irrefl _
      · intro hlt
        exact hc (List.lt_of_le_of_lt (List.not_lt.mp (k2 y hy)) hlt)
/-! by value -/
def minD (ds : List D) : Option (D × Nat) := match ds with
  | [.dct kvs] => (keyStrs kvs).bind fun ss => (minS ss).map fun m => (.str m, 0)
  | _ => none
def sortD (ds : List D) : Option (D × Nat) := match ds with
  | [.dct kvs] => (keyStrs kvs).map fun ss => (.lst ((sortS ss).map .str), 1)
  | _ => none
theorem str_mk (x : Str) : (⟨x.cps.toList.toArray⟩ : Str) = x := rfl
theorem minS_uniq {ss : List Str} {m n : Str} (h : minS ss = some m) (hn : n ∈ ss) (hl : ∀ j ∈ ss, ¬ j.cps.toList < n.cps.toList) : n = m := by
  obtain ⟨k1, k2⟩ := minS_ok h
  have h1 := k2 n hn
  have h2 := hl m k1
  have e : n.cps.toList = m.cps.toList := List.le_antisymm (List.not_lt.mp h2) (List.not_lt.mp h1)
  rw [← str_mk n, ← str_mk m, e]
section
variable {X : Cx} {wx : WX} {e : Expr} {ms : M (List Op)} {p pos : Pos}
theorem blt_minD : Blt X rMinSD minD := by
  intro w ds vs o k Q ok iv ef hr
  unfold minD at ef
  split at ef
  · obtain ⟨ss, h1, h2⟩ := Option.bind_eq_some_iff.mp ef
    obtain ⟨m, h3, h4⟩ := Option.map_eq_some_iff.mp h2
    cases h4
    obtain ⟨v, rfl, a, kv, rfl, ha, t⟩ := itvs1 iv
    refine ⟨a, kv, ss, rfl, ha, keyStrs_ok t h1, fun z => ?_, fun n hn hl => ?_⟩
    · rw [z] at h3
      cases h3
    · rw [minS_uniq h3 hn hl]
      exact hr.str ok
  · cases ef
theorem blt_sortD : Blt X rSortSD sortD := by
  intro w ds vs o k Q ok iv ef hr
  unfold sortD at ef
  split at ef
  · obtain ⟨ss, h1, h2⟩ := Option.map_eq_some_iff.mp ef
    cases h2
    obtain ⟨v, rfl, a, kv, rfl, ha, t⟩ := itvs1 iv
    exact ⟨a, kv, ss, rfl, ha, keyStrs_ok t h1, fun ys p hy hs hp => by rw [sorted_uniq hy hs]; exact hr.lst ok strs_vx hp⟩
  · cases ef
theorem ce_minD (hc : X.calm = true) (hg : Gl X "min") (hm : X.mg "min" = none) (ha : CA X wx [e] ms) (he : starEach [e] X.env = (false, eval e X.env) :: starEach [] X.env := by rfl) : CE X wx (.Call (.Name "min" p) [e] [] pos) (bltM minD ms) := ce_blt (cr_minSD hc) blt_minD hg hm (by decide +kernel) ha (he := he) (hpl := rfl)
theorem ce_sortD (hc : X.calm = true) (hg : Gl X "sorted") (hm : X.mg "sorted" = none) (ha : CA X wx [e] ms) (he : starEach [e] X.env = (false, eval e X.env) :: starEach [] X.env := by rfl) : CE X wx (.Call (.Name "sorted" p) [e] [] pos) (bltM sortD ms) := ce_blt (call_sortSD hc) blt_sortD hg hm (by decide +kernel) ha (he := he) (hpl := rfl)
end
end Mi

set_option Elab.async false
set_option linter.all false
set_option maxRecDepth 100000
set_option maxHeartbeats 4000000
namespace Mi
open PySem L2

/-! ### instances: attributes -/
section
variable {K : PySem.W.Frag} {w w' : Wd}
theorem ins_at : ∀ {is : List Inst} {b n : Nat} {i : Inst} {fp : List Addr}, InsR K w b is fp → is[n]? = some i →
    ∃ f1 f f2, fp = f1 ++ f ++ f2 ∧ OneR K w (b + n) i f ∧ ∀ w' i' f', (∀ m j g, m ≠ b + n → (∀ x ∈ g, x ∈ f1 ++ f2) → OneR K w m j g → OneR K w' m j g) → OneR K w' (b + n) i' f' → InsR K w' b (is.set n i') (f1 ++ f' ++ f2)
  | [], _, _, _, _, _, e => by cases e
  | j :: is, b, 0, i, _, ⟨f, g, e, h, t⟩, z => by
    cases z
    refine ⟨[], f, g, e, h, fun w' i' f' hk h' => ⟨f', g, rfl, h', ?_⟩⟩
    have key : ∀ {is : List Inst} {c : Nat} {g' : List Addr}, b < c → (∀ x ∈ g', x ∈ g) → InsR K w c is g' → InsR K w' c is g' := by
      intro is
      induction is with
      | nil => intro c g' _ _ h; exact h
      | cons j is ih =>
        intro c g' hc hs ⟨f2, g2, e2, h2, t2⟩
        exact ⟨f2, g2, e2, hk c j f2 (by omega) (fun x hx => hs x (by rw [e2]; exact List.mem_append_left _ hx)) h2, ih (by omega) (fun x hx => hs x (by rw [e2]; exact List.mem_append_right _ hx)) t2⟩
    exact key (Nat.lt_succ_self b) (fun x hx => hx) t
  | j :: is, b, n + 1, i, _, ⟨f, g, e, h, t⟩, z => by
    obtain ⟨f1, f', f2, e1, h1, h2⟩ := ins_at (b := b + 1) (n := n) t z
    refine ⟨f ++ f1, f', f2, by rw [e, e1]; simp [List.append_assoc], by rw [show b + (n + 1) = b + 1 + n by omega]; exact h1, fun w' i' f'' hk h' => ⟨f, f1 ++ f'' ++ f2, by simp [List.append_assoc], hk b j f (by omega) (fun x hx => by simp [hx]) h, h2 w' i' f'' (fun m j g hm hg => hk m j g (by omega) (fun x hx => by have := hg x hx; simp only [List.mem_append] at this ⊢; grind)) (by rw [show b + 1 + n = b + (n + 1) by omega]; exact h')⟩⟩
theorem fs_look : ∀ {fs : List (Str × Slot)} {fv : List (Str × V)} {g : List Addr} {f : Str} {sl : Slot}, All3 (fun (a : Str × Slot) (b : Str × V) f => a.1 = b.1 ∧ Ow K w a.2.k a.2.d b.2 f) fs fv g → fs.lookup f = some sl →
    ∃ y g', fv.lookup f = some y ∧ Ow K w sl.k sl.d y g' ∧ ∀ x ∈ g', x ∈ g
  | [], fv, _, _, _, _, e => by cases e
  | (a, s) :: fs, [], _, _, _, h, _ => h.elim
  | (a, s) :: fs, (b, v) :: fv, _, f, sl, ⟨f1, g1, e, ⟨h1, h2⟩, t⟩, hl => by
    have h1' : a = b := h1
    subst h1'
    rw [List.lookup_cons] at hl ⊢
    cases hq : f == a with
    | true =>
      rw [hq] at hl
      cases hl
      exact ⟨v, f1, rfl, h2, fun x hx => by rw [e]; exact List.mem_append_left _ hx⟩
    | false =>
      rw [hq] at hl
      obtain ⟨y, g', k1, k2, k3⟩ := fs_look t hl
      exact ⟨y, g', k1, k2, fun x hx => by rw [e]; exact List.mem_append_right _ (k3 x hx)⟩
theorem fs_none : ∀ {fs : List (Str × Slot)} {fv : List (Str × V)} {g : List Addr} {f : Str}, All3 (fun (a : Str × Slot) (b : Str × V) f => a.1 = b.1 ∧ Ow K w a.2.k a.2.d b.2 f) fs fv g → fs.lookup f = none → fv.lookup f = none
  | [], [], _, _, _, _ => rfl
  | [], _ :: _, _, _, h, _ => h.elim
  | (a, s) :: fs, [], _, _, h, _ => h.elim
  | (a, s) :: fs, (b, v) :: fv, _, f, ⟨f1, g1, e, ⟨h1, h2⟩, t⟩, hl => by
    have h1' : a = b := h1
    subst h1'
    rw [List.lookup_cons] at hl ⊢
    cases hq : f == a with
    | true =>
      rw [hq] at hl
      cases hl
    | false =>
      rw [hq] at hl
      exact fs_none t hl
theorem ow_obj {k n : Nat} {v : V} {f : List Addr} (h : Ow K w k (.obj n) v f) : n < w.N ∧ v = .ref (w.mu n) ∧ f = [] := by
  cases k with
  | zero => exact ⟨h.1.1, h.1.2, h.2⟩
  | succ k => exact ⟨h.1.1, h.1.2, h.2⟩
end
/-- the instance that an operand is -/
def insM (cl : List Str) (o : Op) : M (Nat × Inst) := bnd (look o) fun p s => match p.1 with
  | .obj n => match s.S[n]? with
    | some i => if i.cls ∈ cl then .ok (n, i) s else .no
    | none => .no
  | _ => .no
def attM (cl : List Str) (f : Str) (m : M Op) : M Op := bnd m fun o => bnd (insM cl o) fun p => match p.2.fs.lookup f with
  | some sl => if sl.k = 0 then ret (.val sl.d 0) else stuck
  | none => stuck
section
variable {X : Cx} {wx : WX} {s0 st : St} {s s' : Sx} {w w0 w1 : Wd} {fp fp0 fp1 fo g : List Addr}
theorem ins_go {γ δ : Type} {R2 : γ → δ → Wd → List Addr → Prop} {cl : List Str} {o : Op} {f : Nat × Inst → M γ} {Q : δ → Hp → Prop} {v : V} (hp : Post X wx R2 s0 st w0 fp0 (bnd (insM cl o) f s) Q) (R : Rel X.K s0 s st w fp) (h : OpR X.K st w o v fo) :
    ∃ n i, s.S[n]? = some i ∧ i.cls ∈ cl ∧ v = .ref (w.mu n) ∧ n < w.N ∧ Post X wx R2 s0 st w0 fp0 (f (n, i) s) Q ∧ ∃ dx fv g, w.H (w.mu n) = some (.ins (He.ga X.K i.cls) dx fv) ∧ w.F (w.mu n) = none ∧ All3 (fun (a : Str × Slot) (b : Str × V) f => a.1 = b.1 ∧ Ow X.K w a.2.k a.2.d b.2 f) i.fs fv g := by
  unfold bnd at hp
  unfold insM at hp
  unfold bnd at hp
  cases hl : look o s with
  | no =>
    rw [hl] at hp
    exact hp.elim
  | ex x s1 => exact (look_no hl).elim
  | ok p s1 =>
    rw [hl] at hp
    obtain ⟨d, k⟩ := p
    obtain ⟨rfl, ⟨f0, q, _⟩⟩ := look_ok R h hl
    dsimp only at hp
    cases d with
    | obj n =>
      obtain ⟨hn, ev, _⟩ := ow_obj q
      cases hi : s1.S[n]? with
      | none =>
        dsimp only at hp
        rw [hi] at hp
        exact hp.elim
      | some i =>
        dsimp only at hp
        rw [hi] at hp
        dsimp only at hp
        by_cases hc : i.cls ∈ cl
        · rw [if_pos hc] at hp
          obtain ⟨fe, fs, ef, q1, q2⟩ := R.parts
          obtain ⟨g1, g2, g3, _, ⟨dx, fv, g', h1, h2, _, h4⟩, _⟩ := ins_at q2 hi
          rw [Nat.zero_add] at h1 h2
          exact ⟨n, i, hi, hc, ev, hn, hp, dx, fv, g', h1, h2, h4⟩
        · rw [if_neg hc] at hp
          exact hp.elim
    | _ => exact hp.elim
theorem ce_att {e : Expr} {m : M Op} {f : Str} {pos : Pos} {cl : List Str} (hcl : ∀ c ∈ cl, Cls X.K (He.ga X.K c) ∧ NoAttr X.K (He.ga X.K c) f) (he : CE X wx e m) (hb : attributeBase e f X.env (eval e X.env) = eval e X.env := by rfl) : CE X wx (.Attribute e f pos) (attM cl f m) := by
  refine ⟨fun s0 s st w fp Q R hp => ⟨_, pe_fld pe_W hb, ?_⟩⟩
  refine he.go R (Stp.refl R.ok) hp fun o s1 v w1 f1 fp1 R1 r1 n1 S1 hp1 => ?_
  obtain ⟨n, i, hi, hc, rfl, hn, hp2, dx, fv, g, h1, h2, h4⟩ := ins_go hp1 R1 r1
  obtain ⟨c1, c2⟩ := hcl _ hc
  dsimp only at hp2
  cases hl : i.fs.lookup f with
  | none =>
    rw [hl] at hp2
    exact hp2.elim
  | some sl =>
    rw [hl] at hp2
    dsimp only at hp2
    by_cases hk : sl.k = 0
    · rw [if_pos hk] at hp2
      obtain ⟨y, g', k1, k2, _⟩ := fs_look h4 hl
      rw [hk] at k2
      refine ⟨w1.mu n, _, dx, fv, y, rfl, h1, c1, c2, k1, ?_⟩
      exact hp2 y w1 [] fp1 R1 ⟨k2.1, rfl⟩ R1.nd S1.dropL
    · rw [if_neg hk] at hp2
      exact hp2.elim
/-! methods -/
def callO' (f : Fn) (np : Nat) (dfl : List D) (os : List Op) : M Op := if os.length + dfl.length = np then fun s => match gth os s.r with
  | none => .no
  | some (args, r') => match f (args.map (·.1) ++ dflS dfl) s.S with
    | .ok d k outs S' => .ok (.val d k) ⟨fill args outs r', S'⟩
    | .ex x outs S' => .ex x ⟨fill args outs r', S'⟩
    | .no => .no
  else stuck
def methM (cl : List Str) (m : Str) (f : Fn) (np : Nat) (dfl : List D) (mo : M Op) (ms : M (List Op)) : M Op := bnd mo fun o => bnd (insM cl o) fun p => if (p.2.fs.lookup m).isNone then bnd ms fun os => callO' f np dfl (.val (.obj p.1) 0 :: os) else stuck
end
end Mi

set_option Elab.async false
set_option linter.all false
set_option maxRecDepth 100000
set_option maxHeartbeats 4000000
namespace Mi
open PySem L2

/-! ### methods -/
structure CalM (P : Program) (w : World) (K : PySem.W.Frag) (mg : Str → Option Value) (base : Heap) (k : Nat) (C m : Str) (np : Nat) (fn : Fn) (dfl : List D) : Prop where
  ex : ∃ fa fd ps ds dvs, Cls K (He.ga K C) ∧ Meth K (He.ga K C) m fa ∧ FnOk P w K mg base (L2.CX P w) k fa fd ps (spOf K np fn) ∧ Binds K fd ps ds ∧ Vals dvs ds ∧ DflOk dfl dvs
section
variable {X : Cx} {wx : WX} {s0 st : St} {s s' : Sx} {w w0 w1 : Wd} {fp fp0 fp1 fo g : List Addr} {x m C : Str} {np j k : Nat} {fn : Fn} {dfl : List D} {o e : Expr} {es : List Expr} {p pos apos : Pos} {mo : M Op} {ms : M (List Op)}
theorem op_obj {n : Nat} (hn : n < w.N) : OpR X.K st w (.val (.obj n) 0) (.ref (w.mu n)) [] := ⟨⟨hn, rfl⟩, rfl⟩
theorem ce_mt {pl : Sem Bool} (c : CalM X.prog X.w X.K X.mg X.base k C m np fn dfl) (hr : Room j X.A) (hk : k ≤ j) (tk : Takes X wx) (ho : CE X wx o mo) (ha : CA X wx (e :: es) ms)
    (hst : starEach (e :: es) X.env = (false, eval e X.env) :: starEach es X.env := by rfl) (hpl : (backTo pos (starEach es X.env)).any (·.1) = false := by rfl)
    (ht : eval (.Call (.Attribute o m apos) (e :: es) [] pos) X.env = (do
      let ov ← eval o X.env
      standAt apos.atName
      let (f, first) ← holding [ov] (getMethod ov m pl)
      callWith pos f first (backTo pos (starEach (e :: es) X.env)) (backToKw pos (keywordEach [] X.env))) := by rfl) :
    CE X wx (.Call (.Attribute o m apos) (e :: es) [] pos) (methM [C] m fn np dfl mo ms) := by
  obtain ⟨fa, fd, ps, ds, dvs, hc, hm, F, b, hv, hd⟩ := c.ex
  refine ⟨fun s0 s st w fp Q R hp => ⟨fun st H Q => W X o st H fun x H1 => ∃ a dx fs, x = .ref a ∧ H1 a = some (.ins (He.ga X.K C) dx fs) ∧ fs.lookup m = none ∧ WA X (e :: es) st H1 fun vs H2 => spOf X.K np fn ((.ref a :: vs) ++ dvs) H2 Q (WE wx st), ⟨fun pins s st H Q I h => ?_⟩, ?_⟩⟩
  · refine PySem.W.methodCall_KW (pl := pl) (thn (pe_W.run pins s st H _ I h) fun u s1 ⟨x, H1, I1, rx, a, dx, fs, ex, ea, l, q⟩ => ?_) ht
    subst ex
    obtain rfl : u = Value.ref a := rx
    refine getmeth_ok I1 ea hc hm l ?_
    refine PySem.W.callWith_K (first := [.ref a]) (h₀ := X.base) I.ok.mod.kin hm.kp (thn (pa_W.run pos pins s1 st H1 _ I1 q) fun us s2 ⟨vs, H2, I2, r, q2⟩ => ⟨I2.kIn, ?_⟩) hst hpl
    exact run_fnSD (E := WE wx) (us := .ref a :: us) (vs := .ref a :: vs) F (hr.mono hk) b hv (passAt tk st) I2 (.cons rfl r) q2
  · refine ho.go R (Stp.refl R.ok) hp fun o1 s1 v w1 f1 fp1 R1 r1 n1 S1 hp1 => ?_
    obtain ⟨n, i, hi, hci, rfl, hn, hp2, dx, fv, g, h1, h2, h4⟩ := ins_go hp1 R1 r1
    have eC : i.cls = C := List.mem_singleton.mp hci
    dsimp only at hp2
    by_cases hl : (i.fs.lookup m).isNone = true
    · rw [if_pos hl] at hp2
      refine ⟨w1.mu n, dx, fv, rfl, by rw [← eC]; exact h1, fs_none h4 (Option.isNone_iff_eq_none.mp hl), ?_⟩
      refine ha.go R1 S1.dropL hp2 fun os s2 vs w2 f2 fp2 R2 r2 n2 S2 hp3 => ?_
      have e2 : w2.mu n = w1.mu n := S2.mu n hn
      have hn2 : n < w2.N := Nat.lt_of_lt_of_le hn S2.le
      have r3 : All3 (OpR X.K st w2) (.val (.obj n) 0 :: os) (.ref (w1.mu n) :: vs) f2 := ⟨[], f2, rfl, by rw [← e2]; exact op_obj hn2, r2⟩
      have hp4 : Post X wx (RE X.K st) s0 st w fp (callO' fn np dfl (.val (.obj n) 0 :: os) s2) Q := hp3
      unfold callO' at hp4
      by_cases hnp : (Op.val (.obj n) 0 :: os).length + dfl.length = np
      · rw [if_pos hnp] at hp4
        exact sp_call hd (by rw [All3.len r3, (hd (w2.fz X.K)).length]; exact hnp) R2 r3 n2 (S1.dropL.trans S2) hp4
      · rw [if_neg hnp] at hp4
        exact hp4.elim
    · rw [if_neg hl] at hp2
      exact hp2.elim
theorem ce_mt0 {pl : Sem Bool} (c : CalM X.prog X.w X.K X.mg X.base k C m np fn dfl) (hr : Room j X.A) (hk : k ≤ j) (tk : Takes X wx) (ho : CE X wx o mo)
    (ht : eval (.Call (.Attribute o m apos) [] [] pos) X.env = (do
      let ov ← eval o X.env
      standAt apos.atName
      let (f, first) ← holding [ov] (getMethod ov m pl)
      callWith pos f first (backTo pos (starEach [] X.env)) (backToKw pos (keywordEach [] X.env))) := by rfl) :
    CE X wx (.Call (.Attribute o m apos) [] [] pos) (methM [C] m fn np dfl mo evN) := by
  obtain ⟨fa, fd, ps, ds, dvs, hc, hm, F, b, hv, hd⟩ := c.ex
  refine ⟨fun s0 s st w fp Q R hp => ⟨fun st H Q => W X o st H fun x H1 => ∃ a dx fs, x = .ref a ∧ H1 a = some (.ins (He.ga X.K C) dx fs) ∧ fs.lookup m = none ∧ spOf X.K np fn ([.ref a] ++ dvs) H1 Q (WE wx st), ⟨fun pins s st H Q I h => ?_⟩, ?_⟩⟩
  · refine PySem.W.methodCall_KW (pl := pl) (thn (pe_W.run pins s st H _ I h) fun u s1 ⟨x, H1, I1, rx, a, dx, fs, ex, ea, l, q⟩ => ?_) ht
    subst ex
    obtain rfl : u = Value.ref a := rx
    refine getmeth_ok I1 ea hc hm l ?_
    exact PySem.W.callWith_K0 (first := [.ref a]) I1.kIn hm.kp (run_fnSD (E := WE wx) (us := [.ref a]) (vs := [.ref a]) F (hr.mono hk) b hv (passAt tk st) I1 (.cons rfl .nil) q)
  · refine ho.go R (Stp.refl R.ok) hp fun o1 s1 v w1 f1 fp1 R1 r1 n1 S1 hp1 => ?_
    obtain ⟨n, i, hi, hci, rfl, hn, hp2, dx, fv, g, h1, h2, h4⟩ := ins_go hp1 R1 r1
    have eC : i.cls = C := List.mem_singleton.mp hci
    dsimp only at hp2
    by_cases hl : (i.fs.lookup m).isNone = true
    · rw [if_pos hl] at hp2
      refine ⟨w1.mu n, dx, fv, rfl, by rw [← eC]; exact h1, fs_none h4 (Option.isNone_iff_eq_none.mp hl), ?_⟩
      have r3 : All3 (OpR X.K st w1) [.val (.obj n) 0] [.ref (w1.mu n)] [] := ⟨[], [], rfl, op_obj hn, rfl⟩
      have hp4 : Post X wx (RE X.K st) s0 st w fp (callO' fn np dfl [.val (.obj n) 0] s1) Q := hp2
      unfold callO' at hp4
      by_cases hnp : [Op.val (.obj n) 0].length + dfl.length = np
      · rw [if_pos hnp] at hp4
        exact sp_call hd (by rw [All3.len r3, (hd (w1.fz X.K)).length]; exact hnp) R1 r3 R1.nd S1.dropL hp4
      · rw [if_neg hnp] at hp4
        exact hp4.elim
    · rw [if_neg hl] at hp2
      exact hp2.elim

/-! ### making an instance -/
def newI (C : Str) : M Nat := fun s => .ok s.S.length { s with S := s.S ++ [⟨C, []⟩] }
def noneO (o : Op) : Bool := match o with
  | .val .non 0 => true
  | _ => false
def mkI (C : Str) (fn : Fn) (np : Nat) (dfl : List D) (os : List Op) : M Op := bnd (newI C) fun n => bnd (callO' fn np dfl (.val (.obj n) 0 :: os)) fun o => if noneO o = true then ret (.val (.obj n) 0) else stuck
def mkM (C : Str) (fn : Fn) (np : Nat) (dfl : List D) (ms : M (List Op)) : M Op := bnd ms fun os => mkI C fn np dfl os
structure CalI (P : Program) (w : World) (K : PySem.W.Frag) (mg : Str → Option Value) (base : Heap) (k : Nat) (C : Str) (np : Nat) (fn : Fn) (dfl : List D) : Prop where
  ex : ∃ fa fd ps ds dvs, Mk K (He.ga K C) fa ∧ mg C = some (.ref (He.ga K C)) ∧ FnOk P w K mg base (L2.CX P w) k fa fd ps (spOf K np fn) ∧ Binds K fd ps ds ∧ Vals dvs ds ∧ DflOk dfl dvs
theorem run_makeSD {CX : CXT} {f Ca : Addr} {fd : FuncData} {ps : List Str} {sp : Sp} {dvs : List V} {ds : List Value} {E : XK} {pins : List (Addr × Obj)} {σ : St} {H : Hp} {s : Shared} {Q : VK} {us : List Value} {vs : List V} (M : Mk X.K Ca f) (F : FnOk X.prog X.w X.K X.mg X.base CX k f fd ps sp) (hr : Room (k + 1) X.A) (hb : Binds X.K fd ps ds) (hd : Vals dvs ds)
    (hx : PassesAt CX X σ E) (I : Inv X pins σ H s) (r : Vals vs us)
    (h : ∀ x dx, H x = none → H dx = none → dx ≠ x → sp (.ref x :: (vs ++ dvs)) (upd (upd H dx (.own x)) x (.ins Ca dx [])) (fun v H2 => v = .non ∧ Q (.ref x) H2) E) :
    wpAny (model X.prog X.w) X.A (call (.ref Ca) us) (EP X pins σ Q) X.xe s := by
  have hq := h (s.heap.objs.size + 1) s.heap.objs.size (I.hok.fresh (Nat.le_succ _)) (I.hok.fresh (Nat.le_refl _)) (Nat.ne_of_lt (Nat.lt_succ_self _))
  have I2 := Inv.made (C := Ca) I
  have r2 : Vals (V.ref (s.heap.objs.size + 1) :: (vs ++ dvs)) (Value.ref (s.heap.objs.size + 1) :: (us ++ ds)) := .cons rfl (r.append hd)
  have hl : (Value.ref (s.heap.objs.size + 1) :: us ++ ds).length = ps.length := by
    have e := r2.length
    rw [F.len _ _ _ _ hq] at e
    exact e.symm
  refine wpAny_call (make_map (f := f) I.kIn M.makes M.init (beq_iff_eq.mp M.fn) (codeAny_mono (F.run _ X.stack _ _ ⟨Value.ref (s.heap.objs.size + 1) :: us, []⟩ (Value.ref (s.heap.objs.size + 1) :: (us ++ ds)) _ _ E (hr.make Ca us [])
    (I2.env0.make Ca us []) (hb _ (Value.ref (s.heap.objs.size + 1) :: us) I2.kIn hl) r2 hq) fun r s' hq' => ?_))
  cases r with
  | error e => exact hx pins _ _ e s' I2 hq'
  | ok fl =>
    cases fl with
    | ret u =>
      obtain ⟨v, H', I3, rv, ev, q3⟩ := I2.after hq'
      subst ev
      exact ⟨rv, ⟨V.ref (s.heap.objs.size + 1), H', I3, rfl, q3⟩⟩
    | next => exact False.elim hq'
    | brk => exact False.elim hq'
    | cont => exact False.elim hq'
def Wd.new (w : Wd) (x dx : Addr) (o : HO) (u : HO) : Wd := { w with H := upd (upd w.H dx o) x u, mu := fun n => if n = w.N then x else w.mu n, N := w.N + 1 }
theorem new_stp {x dx : Addr} {o u : HO} (ok : w.Ok) (hx : w.H x = none) (hdx : w.H dx = none) : Stp w fp (w.new x dx o u) (x :: fp) := by
  have nx : ∀ {a : Addr} {v : HO}, w.H a = some v → (w.new x dx o u).H a = some v := fun {a v} e => by
    show upd (upd w.H dx o) x u a = some v
    rw [upd_ne (fun z => by rw [z, hx] at e; cases e), upd_ne (fun z => by rw [z, hdx] at e; cases e)]
    exact e
  refine ⟨fun a v e => e, fun a v e _ => nx e, fun a v _ _ => rfl, fun a m => ?_, Nat.le_succ _, fun n hn => if_neg (Nat.ne_of_lt hn), fun a v e => nx (ok a v e)⟩
  rcases List.mem_cons.mp m with z | z
  · exact .inr (by rw [z]; exact hx)
  · exact .inl z
theorem insR_snoc {is : List Inst} {b : Nat} {i : Inst} : ∀ {f : List Addr} {g : List Addr}, InsR X.K w b is f → OneR X.K w (b + is.length) i g → InsR X.K w b (is ++ [i]) (f ++ g) := by
  induction is generalizing b with
  | nil =>
    intro f g h h2
    have e : f = [] := h
    subst e
    exact ⟨g, [], by simp, h2, rfl⟩
  | cons j is ih =>
    intro f g ⟨f1, f2, e, h1, t⟩ h2
    refine ⟨f1, f2 ++ g, by rw [e, List.append_assoc], h1, ih t ?_⟩
    rw [show b + 1 + is.length = b + (j :: is).length by rw [List.length_cons]; omega]
    exact h2
theorem mk_go {dvs : List V} {os : List Op} {vs : List V} {Q : VK} {x dx : Addr} (hd : DflOk dfl dvs) (R : Rel X.K s0 s st w fp) (ho : All3 (OpR X.K st w) os vs fo) (nd : (fo ++ fp).Nodup) (S : Stp w0 fp0 w (fo ++ fp))
    (hp : Post X wx (RE X.K st) s0 st w0 fp0 (mkI C fn np dfl os s) Q) (hx : w.H x = none) (hdx : w.H dx = none) (hne : dx ≠ x) :
    spOf X.K np fn (.ref x :: (vs ++ dvs)) (upd (upd w.H dx (.own x)) x (.ins (He.ga X.K C) dx [])) (fun v H2 => v = .non ∧ Q (.ref x) H2) (WE wx st) := by
  obtain ⟨fe, fs, ef, q1, q2⟩ := R.parts
  have S0 : Stp w [] (w.new x dx (.own x) (.ins (He.ga X.K C) dx [])) [x] := new_stp R.ok hx hdx
  have S1 : Stp w (fo ++ fp) (w.new x dx (.own x) (.ins (He.ga X.K C) dx [])) (x :: (fo ++ fp)) := new_stp R.ok hx hdx
  have hN : w.N = s.S.length := R.N
  have hmu : (w.new x dx (.own x) (.ins (He.ga X.K C) dx [])).mu s.S.length = x := if_pos hN.symm
  have hxp : x ∉ fp := fun m => (R.dom x m).1 hx
  have hxo : x ∉ fo := fun m => (all3_dom ho x m).1 hx
  have q1' := all3_keep q1 S0 (fun a _ => List.not_mem_nil)
  have q2' := InsR.keep (K := X.K) S0.fz (n := 0) (by rw [Nat.zero_add, hN]; exact Nat.le_refl _) (fun a ha o h1 h2 => ⟨S0.hp a o h1 List.not_mem_nil, (S0.un a o h1 List.not_mem_nil).trans h2⟩) q2
  have one : OneR X.K (w.new x dx (.own x) (.ins (He.ga X.K C) dx [])) (0 + s.S.length) ⟨C, []⟩ [x] := by
    refine ⟨dx, [], [], ?_, ?_, ?_, rfl⟩
    · rw [Nat.zero_add, hmu]
      exact upd_same
    · rw [Nat.zero_add, hmu]
      exact R.ok.none hx
    · rw [Nat.zero_add, hmu]
  have R' : Rel X.K s0 { s with S := s.S ++ [⟨C, []⟩] } st (w.new x dx (.own x) (.ins (He.ga X.K C) dx [])) (fe ++ (fs ++ [x])) := by
    refine ⟨S0.ok, ?_, ⟨fe, fs ++ [x], rfl, q1', insR_snoc q2' one⟩, ?_, R.pin⟩
    · show w.N + 1 = (s.S ++ ([⟨C, []⟩] : List Inst)).length
      rw [List.length_append, hN]
      rfl
    · rw [← List.append_assoc, ← ef]
      exact List.nodup_append.mpr ⟨R.nd, by simp, fun a ha b hb e => hxp (by rw [List.mem_singleton.mp hb] at e; rw [← e]; exact ha)⟩
  have r' : All3 (OpR X.K st (w.new x dx (.own x) (.ins (He.ga X.K C) dx []))) (.val (.obj s.S.length) 0 :: os) (.ref x :: vs) fo := by
    refine ⟨[], fo, rfl, ?_, all3_stp ho S0 (fun a _ => List.not_mem_nil)⟩
    have := op_obj (X := X) (st := st) (w := w.new x dx (.own x) (.ins (He.ga X.K C) dx [])) (n := s.S.length) (by show s.S.length < w.N + 1; omega)
    rw [hmu] at this
    exact this
  have nd' : (fo ++ (fe ++ (fs ++ [x]))).Nodup := by
    rw [← List.append_assoc fe, ← ef, ← List.append_assoc]
    exact List.nodup_append.mpr ⟨nd, by simp, fun a ha b hb e => by
      rw [List.mem_singleton.mp hb] at e
      rw [e] at ha
      rcases List.mem_append.mp ha with m | m
      · exact hxo m
      · exact hxp m⟩
  have S2 : Stp w0 fp0 (w.new x dx (.own x) (.ins (He.ga X.K C) dx [])) (fo ++ (fe ++ (fs ++ [x]))) := (S.trans S1).sub fun a m => by
    rw [ef]
    simp only [List.mem_append, List.mem_cons, List.mem_singleton, List.not_mem_nil, or_false] at m ⊢
    grind
  have hp1 : Post X wx (RE X.K st) s0 st w0 fp0 (bnd (callO' fn np dfl (.val (.obj s.S.length) 0 :: os)) (fun o => if noneO o = true then ret (.val (.obj s.S.length) 0) else stuck) { s with S := s.S ++ [⟨C, []⟩] }) Q := hp
  by_cases hnp : (Op.val (.obj s.S.length) 0 :: os).length + dfl.length = np
  · refine sp_call (w0 := w.new x dx (.own x) (.ins (He.ga X.K C) dx [])) (fp0 := fo ++ (fe ++ (fs ++ [x]))) (vs := .ref x :: vs) (Q := fun v H2 => v = .non ∧ Q (.ref x) H2) hd (by rw [All3.len r', (hd (w.fz X.K)).length]; exact hnp) R' r' nd' (Stp.refl R'.ok) ?_
    suffices key2 : Post X wx (RE X.K st) s0 st (w.new x dx (.own x) (.ins (He.ga X.K C) dx [])) (fo ++ (fe ++ (fs ++ [x]))) (callO' fn np dfl (.val (.obj s.S.length) 0 :: os) { s with S := s.S ++ [⟨C, []⟩] }) (fun v H2 => v = .non ∧ Q (.ref x) H2) by
      unfold callO' at key2
      rw [if_pos hnp] at key2
      exact key2
    unfold bnd at hp1
    generalize callO' fn np dfl (.val (.obj s.S.length) 0 :: os) { s with S := s.S ++ [⟨C, []⟩] } = r at hp1 ⊢
    cases r with
    | no => exact hp1.elim
    | ex y s2 =>
      intro c d2 w2 fp2 R2 SS ex
      exact hp1 c d2 w2 fp2 R2 (S2.trans SS) ex
    | ok o s2 =>
      dsimp only at hp1
      intro b w2 fo2 fp2 R2 r2 n2 SS
      by_cases hno : noneO o = true
      · rw [if_pos hno] at hp1
        cases o with
        | slot i => cases hno
        | val d k =>
          cases d with
          | non =>
            cases k with
            | succ k => cases hno
            | zero =>
              obtain ⟨e1, e2⟩ := (show Vx (w2.fz X.K) .non b ∧ fo2 = [] from r2)
              subst e2
              refine ⟨e1, hp1 (.ref x) w2 [] fp2 R2 ?_ R2.nd (S2.trans SS)⟩
              have hlt : s.S.length < w.N + 1 := by omega
              have := op_obj (X := X) (st := st) (w := w2) (n := s.S.length) (Nat.lt_of_lt_of_le hlt SS.le)
              rw [SS.mu s.S.length hlt, hmu] at this
              exact this
          | _ => cases hno
      · rw [if_neg hno] at hp1
        exact hp1.elim
  · unfold bnd callO' at hp1
    rw [if_neg hnp] at hp1
    exact hp1.elim
theorem ce_mk (c : CalI X.prog X.w X.K X.mg X.base k C np fn dfl) (hr : Room j X.A) (hk : k + 1 ≤ j) (tk : Takes X wx) (hg : Gl X C) (ha : CA X wx (e :: es) ms)
    (hdb : (C == ("__debug__" : Str)) = false := by decide) (he : starEach (e :: es) X.env = (false, eval e X.env) :: starEach es X.env := by rfl) (hpl : (backTo pos (starEach es X.env)).any (·.1) = false := by rfl) :
    CE X wx (.Call (.Name C p) (e :: es) [] pos) (mkM C fn np dfl ms) := by
  obtain ⟨fa, fd, ps, ds, dvs, hM, hm, F, b, hv, hd⟩ := c.ex
  refine ⟨fun s0 s st w fp Q R hp => ⟨fun st H Q => WA X (e :: es) st H fun vs H1 => ∀ x dx, H1 x = none → H1 dx = none → dx ≠ x → spOf X.K np fn (.ref x :: (vs ++ dvs)) (upd (upd H1 dx (.own x)) x (.ins (He.ga X.K C) dx [])) (fun v H2 => v = .non ∧ Q (.ref x) H2) (WE wx st), ⟨fun pins s st H Q I h => ?_⟩, ?_⟩⟩
  · refine wpAny_Call_Name_kw (ld_glob I hg hm ?_ hdb)
    refine PySem.W.callWith_K (h₀ := X.base) I.ok.mod.kin hM.kp (thn (pa_W.run pos pins s st H _ I h) fun us s1 ⟨vs, H1, I1, r, q⟩ => ⟨I1.kIn, ?_⟩) he hpl
    exact run_makeSD hM F (hr.mono hk) b hv (passAt tk st) I1 r q
  · refine ha.go R (Stp.refl R.ok) hp fun os s1 vs w1 f1 fp1 R1 r1 n1 S1 hp1 => ?_
    intro x dx hx hdx hne
    exact mk_go hd R1 r1 n1 S1 hp1 hx hdx hne
end
end Mi

set_option Elab.async false
set_option linter.all false
set_option maxRecDepth 100000
set_option maxHeartbeats 4000000
namespace Mi
open PySem L2

/-! ### e.f = value: what is stored is frozen -/
def putI (f : Str) (d : D) : List (Str × Slot) → List (Str × Slot)
  | [] => [(f, ⟨d, 0, false⟩)]
  | (g, x) :: r => if g = f then (g, ⟨d, 0, false⟩) :: r else (g, x) :: putI f d r
def setI (n : Nat) (f : Str) (d : D) : M Unit := fun s => match s.S[n]? with
  | some i => if i.fs.length < 1000 then .ok () { s with S := s.S.set n { i with fs := putI f d i.fs } } else .no
  | none => .no
def fldM (cl : List Str) (f : Str) (mo mv : M Op) : M Flow := bnd mv fun o => bnd (fzo o) fun d => bnd mo fun q => bnd (insM cl q) fun p => bnd (setI p.1 f d) fun _ => ret .nx
section
variable {K : PySem.W.Frag} {w : Wd}
theorem putI_ok {f : Str} {d : D} {y : V} (h : Vx (w.fz K) d y) : ∀ {fs : List (Str × Slot)} {fv : List (Str × V)} {g : List Addr}, All3 (fun (a : Str × Slot) (b : Str × V) f => a.1 = b.1 ∧ Ow K w a.2.k a.2.d b.2 f) fs fv g →
    ∃ g', All3 (fun (a : Str × Slot) (b : Str × V) f => a.1 = b.1 ∧ Ow K w a.2.k a.2.d b.2 f) (putI f d fs) (putF f y fv) g' ∧ g'.Sublist g
  | [], [], g, e => by
    have e' : g = [] := e
    subst e'
    exact ⟨[], ⟨[], [], rfl, ⟨rfl, h, rfl⟩, rfl⟩, List.Sublist.refl _⟩
  | [], _ :: _, _, e => e.elim
  | _ :: _, [], _, e => e.elim
  | (a, s) :: fs, (b, v) :: fv, _, ⟨f1, g1, e, ⟨h1, h2⟩, t⟩ => by
    have h1' : a = b := h1
    subst h1'
    by_cases hq : a = f
    · refine ⟨g1, ?_, ?_⟩
      · show All3 _ (if a = f then (a, ⟨d, 0, false⟩) :: fs else _) (if a = f then (a, y) :: fv else _) g1
        rw [if_pos hq, if_pos hq]
        exact ⟨[], g1, rfl, ⟨rfl, h, rfl⟩, t⟩
      · rw [e]
        exact List.sublist_append_right _ _
    · obtain ⟨g', k1, k2⟩ := putI_ok h t
      refine ⟨f1 ++ g', ?_, ?_⟩
      · show All3 _ (if a = f then _ else (a, s) :: putI f d fs) (if a = f then _ else (a, v) :: putF f y fv) (f1 ++ g')
        rw [if_neg hq, if_neg hq]
        exact ⟨f1, g', rfl, ⟨rfl, h2⟩, k1⟩
      · rw [e]
        exact (List.Sublist.refl f1).append k2
end
section
variable {X : Cx} {wx : WX} {s0 st : St} {s s' : Sx} {w w0 w1 : Wd} {fp fp0 fp1 fo g : List Addr} {E : Ends}
theorem fzoS_go {o : Op} {f : D → M Flow} {v : V} (hp : PostS X wx s0 w0 fp0 (bnd (fzo o) f s) E) (R : Rel X.K s0 s st w fp) (h : OpR X.K st w o v fo) (n : (fo ++ fp).Nodup) :
    ∃ d s1 w1 fp1, Rel X.K s0 s1 st w1 fp1 ∧ Vx (w1.fz X.K) d v ∧ Stp w (fo ++ fp) w1 fp1 ∧ w1.H = w.H ∧ PostS X wx s0 w0 fp0 (f d s1) E := by
  unfold fzo at hp
  unfold bnd at hp
  cases ho : own o s with
  | no =>
    rw [ho] at hp
    exact hp.elim
  | ex x s1 => exact (own_no ho).elim
  | ok p s1 =>
    obtain ⟨d, k⟩ := p
    rw [ho] at hp
    obtain ⟨w1, fo1, fp1, R1, ow1, nd1, S1, sb1, sb2, eH, eN⟩ := own_ok R h n ho
    dsimp only at hp
    by_cases hz : fzOk k d = true
    · rw [if_pos hz] at hp
      have vx := frz_vx R1.ok fo1 (fun _ m => m) hz ow1
      exact ⟨d, s1, w1.frz fo1, fp1, rel_frz R1 (fun x hx m => nd_dis nd1 x m hx), vx, S1.trans (frz_stp R1.ok (fun x m => List.mem_append_left _ m) fun x m => List.mem_append_right _ m), eH, hp⟩
    · rw [if_neg hz] at hp
      exact hp.elim
theorem insS_go {cl : List Str} {o : Op} {f : Nat × Inst → M Flow} {v : V} (hp : PostS X wx s0 w0 fp0 (bnd (insM cl o) f s) E) (R : Rel X.K s0 s st w fp) (h : OpR X.K st w o v fo) :
    ∃ n i, s.S[n]? = some i ∧ i.cls ∈ cl ∧ v = .ref (w.mu n) ∧ n < w.N ∧ PostS X wx s0 w0 fp0 (f (n, i) s) E := by
  unfold bnd at hp
  unfold insM at hp
  unfold bnd at hp
  cases hl : look o s with
  | no =>
    rw [hl] at hp
    exact hp.elim
  | ex x s1 => exact (look_no hl).elim
  | ok p s1 =>
    rw [hl] at hp
    obtain ⟨d, k⟩ := p
    obtain ⟨rfl, ⟨f0, q, _⟩⟩ := look_ok R h hl
    dsimp only at hp
    cases d with
    | obj n =>
      obtain ⟨hn, ev, _⟩ := ow_obj q
      cases hi : s1.S[n]? with
      | none =>
        dsimp only at hp
        rw [hi] at hp
        exact hp.elim
      | some i =>
        dsimp only at hp
        rw [hi] at hp
        dsimp only at hp
        by_cases hc : i.cls ∈ cl
        · rw [if_pos hc] at hp
          exact ⟨n, i, hi, hc, ev, hn, hp⟩
        · rw [if_neg hc] at hp
          exact hp.elim
    | _ => exact hp.elim
/-- an attribute set -/
theorem put_rel {n : Nat} {i : Inst} {f : Str} {d : D} {y : V} (R : Rel X.K s0 s st w fp) (hi : s.S[n]? = some i) (hy : Vx (w.fz X.K) d y) :
    ∃ dx fv w' fp', w.H (w.mu n) = some (.ins (He.ga X.K i.cls) dx fv) ∧ (fv.length = i.fs.length) ∧ w'.H = upd w.H (w.mu n) (.ins (He.ga X.K i.cls) dx (putF f y fv)) ∧ Rel X.K s0 { s with S := s.S.set n { i with fs := putI f d i.fs } } st w' fp' ∧ Stp w fp w' fp' := by
  obtain ⟨fe, fs, ef, q1, q2⟩ := R.parts
  obtain ⟨f1, f0, f2, e1, ⟨dx, fv, g', h1, h2, h3, h4⟩, hset⟩ := ins_at q2 hi
  rw [Nat.zero_add] at h1 h2 h3 hset
  obtain ⟨g2, k1, k2⟩ := putI_ok (f := f) hy h4
  have hmem : w.mu n ∈ fp := by
    rw [ef, e1, h3]
    simp
  have hnd : (fe ++ (f1 ++ (w.mu n :: g') ++ f2)).Nodup := by
    have := R.nd
    rw [ef, e1, h3] at this
    exact this
  have S1 : Stp w [w.mu n] { w with H := upd w.H (w.mu n) (.ins (He.ga X.K i.cls) dx (putF f y fv)) } [w.mu n] := by
    refine ⟨fun a o e => e, fun a o e hn => ?_, fun a o _ _ => rfl, fun a m => .inl m, Nat.le_refl _, fun _ _ => rfl, fun a o e => ?_⟩
    · show upd w.H (w.mu n) _ a = some o
      rw [upd_ne (fun z => hn (by rw [z]; exact List.mem_singleton_self _))]
      exact e
    · show upd w.H (w.mu n) _ a = some o
      have e' : w.F a = some o := e
      rw [upd_ne (fun z => by rw [z, h2] at e'; cases e')]
      exact R.ok a o e'
  have nem : ∀ {g : List Addr} {x : Addr}, (∀ z ∈ g, z ≠ w.mu n) → x ∈ g → x ∉ [w.mu n] := fun h hx m => h _ hx (List.mem_singleton.mp m)
  have q1' := all3_keep q1 S1 (fun x hx m => by
    rw [List.mem_singleton.mp m] at hx
    simp only [List.nodup_append, List.mem_append, List.mem_cons] at hnd
    grind)
  have kp : ∀ {d : D} {k : Nat} {v : V} {g : List Addr}, (∀ z ∈ g, z ≠ w.mu n) → Ow X.K w k d v g → Ow X.K { w with H := upd w.H (w.mu n) (.ins (He.ga X.K i.cls) dx (putF f y fv)) } k d v g := fun hg h =>
    Ow.keep S1.fz (fun x hx o e hn => ⟨S1.hp x o e (fun m => hg x hx (List.mem_singleton.mp m)), hn⟩) h
  have hgn : ∀ z ∈ g2, z ≠ w.mu n := fun z hz e => by
    have hz' := k2.subset hz
    rw [e] at hz'
    simp only [List.nodup_append, List.nodup_cons, List.mem_append, List.mem_cons] at hnd
    grind
  have one : OneR X.K { w with H := upd w.H (w.mu n) (.ins (He.ga X.K i.cls) dx (putF f y fv)) } n { i with fs := putI f d i.fs } (w.mu n :: g2) :=
    ⟨dx, putF f y fv, g2, upd_same, h2, rfl, k1.imp fun a b f' _ hf q => ⟨q.1, kp (fun z hz => hgn z (hf z hz)) q.2⟩⟩
  have q2' := hset { w with H := upd w.H (w.mu n) (.ins (He.ga X.K i.cls) dx (putF f y fv)) } { i with fs := putI f d i.fs } (w.mu n :: g2) (fun m j g hm hg ⟨dx', fv', g'', a1, a2, a3, a4⟩ => by
    have hng : ∀ z ∈ g, z ≠ w.mu n := fun z hz e => by
      have := hg z hz
      rw [e] at this
      simp only [List.nodup_append, List.mem_append, List.mem_cons] at hnd this
      grind
    refine ⟨dx', fv', g'', ?_, a2, a3, a4.imp fun a b f' _ hf q => ⟨q.1, kp (fun z hz => hng z (by rw [a3]; exact List.mem_cons_of_mem _ (hf z hz))) q.2⟩⟩
    show upd w.H (w.mu n) _ (w.mu m) = _
    rw [upd_ne (hng _ (by rw [a3]; exact List.mem_cons_self ..))]
    exact a1) one
  have hsub : (fe ++ (f1 ++ (w.mu n :: g2) ++ f2)).Sublist (fe ++ (f1 ++ (w.mu n :: g') ++ f2)) := (List.Sublist.refl _).append (((List.Sublist.refl _).append (k2.cons₂ _)).append (List.Sublist.refl _))
  refine ⟨dx, fv, { w with H := upd w.H (w.mu n) (.ins (He.ga X.K i.cls) dx (putF f y fv)) }, fe ++ (f1 ++ (w.mu n :: g2) ++ f2), h1, All3.len h4, rfl, ⟨S1.ok, ?_, ⟨fe, _, rfl, q1', q2'⟩, hsub.nodup hnd, R.pin⟩, ?_⟩
  · show w.N = (s.S.set n _).length
    rw [List.length_set]
    exact R.N
  · have S2 : Stp w fp { w with H := upd w.H (w.mu n) (.ins (He.ga X.K i.cls) dx (putF f y fv)) } fp := by
      refine ⟨S1.fr, fun a o e hn => S1.hp a o e (fun m => hn (by rw [List.mem_singleton.mp m]; exact hmem)), fun a o _ _ => rfl, fun a m => .inl m, S1.le, S1.mu, S1.ok⟩
    refine S2.sub fun x m => ?_
    rw [ef, e1, h3]
    exact hsub.subset m
theorem cs_fld {o value : Expr} {f : Str} {pos pos' : Pos} {mo mv : M Op} {cl : List Str} (hcl : ∀ c ∈ cl, Cls X.K (He.ga X.K c) ∧ NoAttr X.K (He.ga X.K c) f) (ho : CE X wx o mo) (hv : CE X wx value mv) (hs : swapsWith value (some (.Attribute o f pos')) pos.line X.env = pure false := by rfl) :
    CS X wx (.Assign [.Attribute o f pos'] value pos) (fldM cl f mo mv) := by
  refine ⟨fun s0 s st w fp E R hp => ⟨_, ps_fld pe_W pe_W hs, ?_⟩⟩
  refine hv.goS R hp fun o1 s1 y w1 f1 fp1 R1 r1 n1 S1 hp1 => ?_
  obtain ⟨d, s2, w2, fp2, R2, vx, S2, eH, hp2⟩ := fzoS_go hp1 R1 r1 n1
  rw [← eH]
  refine ho.goS R2 (PostS.from hp2 (S1.trans S2)) fun q s3 a w3 f3 fp3 R3 r3 n3 S3 hp3 => ?_
  obtain ⟨n, i, hi, hc, rfl, hn, hp4⟩ := insS_go hp3 R3 r3
  obtain ⟨c1, c2⟩ := hcl _ hc
  obtain ⟨dx, fv, w4, fp4, h1, hlen, h2, R4, S4⟩ := put_rel (f := f) R3 hi (Vx.mono S3.fz d y vx)
  unfold bnd setI at hp4
  dsimp only at hp4
  rw [hi] at hp4
  dsimp only at hp4
  by_cases hl : i.fs.length < 1000
  · rw [if_pos hl] at hp4
    refine ⟨w3.mu n, _, dx, fv, rfl, h1, c1, c2, by rw [hlen]; exact hl, ?_⟩
    rw [← h2]
    exact hp4 st w4 fp4 R4 (S3.dropL.trans S4)
  · rw [if_neg hl] at hp4
    exact hp4.elim
end
end Mi

set_option Elab.async false
set_option linter.all false
set_option maxRecDepth 100000
set_option maxHeartbeats 4000000
namespace Mi
open PySem L2

/-! ### methods and classes called with keywords -/
structure CalMK (P : Program) (w : World) (K : PySem.W.Frag) (mg : Str → Option Value) (base : Heap) (k : Nat) (C m : Str) (np : Nat) (fn : Fn) (n : Nat) (ks : List Str) (code : List Nat) (dfl : List D) : Prop where
  ex : ∃ fa fd ps its dvs, Cls K (He.ga K C) ∧ Meth K (He.ga K C) m fa ∧ FnOk P w K mg base (L2.CX P w) k fa fd ps (spOf K np fn) ∧ KwB K fd ps (n + 1) ks code its ∧ Vals dvs its ∧ DflOk dfl dvs
structure CalIK (P : Program) (w : World) (K : PySem.W.Frag) (mg : Str → Option Value) (base : Heap) (k : Nat) (C : Str) (np : Nat) (fn : Fn) (n : Nat) (ks : List Str) (code : List Nat) (dfl : List D) : Prop where
  ex : ∃ fa fd ps its dvs, Mk K (He.ga K C) fa ∧ mg C = some (.ref (He.ga K C)) ∧ FnOk P w K mg base (L2.CX P w) k fa fd ps (spOf K np fn) ∧ KwB K fd ps (n + 1) ks code its ∧ Vals dvs its ∧ DflOk dfl dvs
def zO (d : D) : Op := .val d 0
def methK (cl : List Str) (m : Str) (fn : Fn) (np n nk : Nat) (code : List Nat) (dfl : List D) (mo : M Op) (ms mk : M (List Op)) : M Op := bnd mo fun o => bnd (insM cl o) fun p => if (p.2.fs.lookup m).isNone then bnd ms fun os => bnd mk fun zs => if os.length = n ∧ zs.length = nk then callM fn np [] (ret (pickL code (.val (.obj p.1) 0 :: os ++ (zs ++ dfl.map fun d => Op.val d 0)))) else stuck else stuck
def mkKI (C : Str) (fn : Fn) (np : Nat) (code : List Nat) (dfl : List D) (os zs : List Op) : M Op := bnd (newI C) fun n => bnd (callO' fn np [] (pickL code (.val (.obj n) 0 :: (os ++ (zs ++ dfl.map fun d => Op.val d 0))))) fun o => if noneO o = true then ret (.val (.obj n) 0) else stuck
def mkK (C : Str) (fn : Fn) (np n nk : Nat) (code : List Nat) (dfl : List D) (ms mk : M (List Op)) : M Op := bnd ms fun os => bnd mk fun zs => if os.length = n ∧ zs.length = nk then mkKI C fn np code dfl os zs else stuck
section
variable {X : Cx} {wx : WX} {s0 st : St} {s s' : Sx} {w w0 w1 : Wd} {fp fp0 fp1 fo g : List Addr} {x m C : Str} {np j k n : Nat} {fn : Fn} {dfl : List D} {ks : List Str} {code : List Nat} {o e : Expr} {es : List Expr} {p pos apos : Pos} {mo : M Op} {ms mk : M (List Op)} {kws : List Keyword}
theorem ce_mtK {nk : Nat} {pl : Sem Bool} (c : CalMK X.prog X.w X.K X.mg X.base k C m np fn n ks code dfl) (hr : Room j X.A) (hk : k ≤ j) (tk : Takes X wx) (ho : CE X wx o mo) (ha : CA X wx (e :: es) ms) (hkw : CK X wx kws mk) (hnk : ks.length = nk := by rfl) (hall : (backToKw pos (keywordEach kws X.env)).all (·.1.isSome) = true := by rfl) (hks : (backToKw pos (keywordEach kws X.env)).filterMap (·.1) = ks := by rfl)
    (he : starEach (e :: es) X.env = (false, eval e X.env) :: starEach es X.env := by rfl)
    (hpl : ((backTo pos (starEach (e :: es) X.env)).any (·.1) || (backToKw pos (keywordEach kws X.env)).any (·.1.isNone)) = false := by rfl)
    (ht : eval (.Call (.Attribute o m apos) (e :: es) kws pos) X.env = (do
      let ov ← eval o X.env
      standAt apos.atName
      let (f, first) ← holding [ov] (getMethod ov m pl)
      callWith pos f first (backTo pos (starEach (e :: es) X.env)) (backToKw pos (keywordEach kws X.env))) := by rfl) :
    CE X wx (.Call (.Attribute o m apos) (e :: es) kws pos) (methK [C] m fn np n nk code dfl mo ms mk) := by
  subst hnk
  obtain ⟨fa, fd, ps, its, dvs, hc, hm, F, b, hv, hd⟩ := c.ex
  refine ⟨fun s0 s st w fp Q R hp => ⟨fun st H Q => W X o st H fun x H1 => ∃ a dx fs, x = .ref a ∧ H1 a = some (.ins (He.ga X.K C) dx fs) ∧ fs.lookup m = none ∧ WA X (e :: es) st H1 fun vs H2 => WK X kws st H2 fun zs H3 => vs.length = n ∧ zs.length = ks.length ∧ spOf X.K np fn (pickL code ((.ref a :: vs) ++ (zs ++ dvs))) H3 Q (WE wx st), ⟨fun pins s st H Q I h => ?_⟩, ?_⟩⟩
  · refine PySem.W.methodCall_KW (pl := pl) (thn (pe_W.run pins s st H _ I h) fun u s1 ⟨x, H1, I1, rx, a, dx, fs, ex, ea, l, q⟩ => ?_) ht
    subst ex
    obtain rfl : u = Value.ref a := rx
    refine getmeth_ok I1 ea hc hm l ?_
    refine PySem.W.callWith_KW (first := [.ref a]) (h₀ := X.base) I.ok.mod.kin hm.kp hall (thn (pa_W.run pos pins s1 st H1 _ I1 q) fun us s2 ⟨vs, H2, I2, r, q2⟩ => ?_) hpl he
    refine thn (pk_W.run pos pins s2 st H2 _ I2 q2) fun ws s3 ⟨zs, H3, I3, rz, l1, l2, q3⟩ => ⟨I3.kIn, ?_⟩
    rw [hks]
    exact run_kw (us := .ref a :: us) (vs := .ref a :: vs) F (hr.mono hk) b hv (passAt tk st) I3 (.cons rfl r) rz (by rw [List.length_cons, l1]) l2 q3
  · refine ho.go R (Stp.refl R.ok) hp fun o1 s1 v w1 f1 fp1 R1 r1 n1 S1 hp1 => ?_
    obtain ⟨i, ii, hi, hci, rfl, hn, hp2, dx, fv, g, h1, h2, h4⟩ := ins_go hp1 R1 r1
    have eC : ii.cls = C := List.mem_singleton.mp hci
    dsimp only at hp2
    by_cases hl : (ii.fs.lookup m).isNone = true
    · rw [if_pos hl] at hp2
      refine ⟨w1.mu i, dx, fv, rfl, by rw [← eC]; exact h1, fs_none h4 (Option.isNone_iff_eq_none.mp hl), ?_⟩
      refine ha.go R1 S1.dropL hp2 fun os s2 vs w2 f2 fp2 R2 r2 n2 S2 hp3 => ?_
      refine hkw.go R2 (S1.dropL.trans S2).dropL hp3 fun zo s3 zs w3 f3 fp3 R3 r3 n3 S3 hp4 => ?_
      have e2 : w3.mu i = w1.mu i := by rw [S3.mu i (Nat.lt_of_lt_of_le hn S2.le), S2.mu i hn]
      have hn3 : i < w3.N := Nat.lt_of_lt_of_le hn (Nat.le_trans S2.le S3.le)
      have r2' := all3_stp r2 S3 (nd_dis n2)
      have n4 : (f2 ++ (f3 ++ fp3)).Nodup := S3.nodup n2 (fun z hz => (all3_dom r2 z hz).1) n3
      have r4 : All3 (OpR X.K st w3) (.val (.obj i) 0 :: os) (.ref (w1.mu i) :: vs) f2 := ⟨[], f2, rfl, by rw [← e2]; exact op_obj hn3, r2'⟩
      by_cases hl : os.length = n ∧ zo.length = ks.length
      · rw [if_pos hl] at hp4
        exact ⟨by rw [All3.len r2]; exact hl.1, by rw [All3.len r3]; exact hl.2, kw_go (fa := fa) (fd := fd) (ps := ps) hd R3 r4 r3 n4 ((S1.dropL.trans S2).trans S3.beside) hp4⟩
      · rw [if_neg hl] at hp4
        exact hp4.elim
    · rw [if_neg hl] at hp2
      exact hp2.elim
theorem ce_mtK0 {nk : Nat} {pl : Sem Bool} (c : CalMK X.prog X.w X.K X.mg X.base k C m np fn 0 ks code dfl) (hr : Room j X.A) (hk : k ≤ j) (tk : Takes X wx) (ho : CE X wx o mo) (hkw : CK X wx kws mk) (hnk : ks.length = nk := by rfl) (hall : (backToKw pos (keywordEach kws X.env)).all (·.1.isSome) = true := by rfl) (hks : (backToKw pos (keywordEach kws X.env)).filterMap (·.1) = ks := by rfl)
    (hpl : ((backTo pos (starEach [] X.env)).any (·.1) || (backToKw pos (keywordEach kws X.env)).any (·.1.isNone)) = false := by rfl)
    (ht : eval (.Call (.Attribute o m apos) [] kws pos) X.env = (do
      let ov ← eval o X.env
      standAt apos.atName
      let (f, first) ← holding [ov] (getMethod ov m pl)
      callWith pos f first (backTo pos (starEach [] X.env)) (backToKw pos (keywordEach kws X.env))) := by rfl) :
    CE X wx (.Call (.Attribute o m apos) [] kws pos) (methK [C] m fn np 0 nk code dfl mo evN mk) := by
  subst hnk
  obtain ⟨fa, fd, ps, its, dvs, hc, hm, F, b, hv, hd⟩ := c.ex
  refine ⟨fun s0 s st w fp Q R hp => ⟨fun st H Q => W X o st H fun x H1 => ∃ a dx fs, x = .ref a ∧ H1 a = some (.ins (He.ga X.K C) dx fs) ∧ fs.lookup m = none ∧ WK X kws st H1 fun zs H3 => zs.length = ks.length ∧ spOf X.K np fn (pickL code ([.ref a] ++ (zs ++ dvs))) H3 Q (WE wx st), ⟨fun pins s st H Q I h => ?_⟩, ?_⟩⟩
  · refine PySem.W.methodCall_KW (pl := pl) (thn (pe_W.run pins s st H _ I h) fun u s1 ⟨x, H1, I1, rx, a, dx, fs, ex, ea, l, q⟩ => ?_) ht
    subst ex
    obtain rfl : u = Value.ref a := rx
    refine getmeth_ok I1 ea hc hm l ?_
    refine PySem.W.callWith_KW0 (first := [.ref a]) (h₀ := X.base) I.ok.mod.kin hm.kp hall (thn (pk_W.run pos pins s1 st H1 _ I1 q) fun ws s3 ⟨zs, H3, I3, rz, l2, q3⟩ => ⟨I3.kIn, ?_⟩) hpl
    rw [hks]
    exact run_kw (us := [.ref a]) (vs := [.ref a]) F (hr.mono hk) b hv (passAt tk st) I3 (.cons rfl .nil) rz rfl l2 q3
  · refine ho.go R (Stp.refl R.ok) hp fun o1 s1 v w1 f1 fp1 R1 r1 n1 S1 hp1 => ?_
    obtain ⟨i, ii, hi, hci, rfl, hn, hp2, dx, fv, g, h1, h2, h4⟩ := ins_go hp1 R1 r1
    have eC : ii.cls = C := List.mem_singleton.mp hci
    dsimp only at hp2
    by_cases hl : (ii.fs.lookup m).isNone = true
    · rw [if_pos hl] at hp2
      refine ⟨w1.mu i, dx, fv, rfl, by rw [← eC]; exact h1, fs_none h4 (Option.isNone_iff_eq_none.mp hl), ?_⟩
      have hp3 : Post X wx (RE X.K st) s0 st w fp (bnd mk (fun zs => if ([] : List Op).length = 0 ∧ zs.length = ks.length then callM fn np [] (ret (pickL code (.val (.obj i) 0 :: [] ++ (zs ++ dfl.map fun d => Op.val d 0)))) else stuck) s1) Q := hp2
      refine hkw.go R1 S1.dropL hp3 fun zo s3 zs w3 f3 fp3 R3 r3 n3 S3 hp4 => ?_
      have e2 : w3.mu i = w1.mu i := S3.mu i hn
      have hn3 : i < w3.N := Nat.lt_of_lt_of_le hn S3.le
      have r4 : All3 (OpR X.K st w3) (.val (.obj i) 0 :: []) (.ref (w1.mu i) :: []) [] := ⟨[], [], rfl, by rw [← e2]; exact op_obj hn3, rfl⟩
      by_cases hl : ([] : List Op).length = 0 ∧ zo.length = ks.length
      · rw [if_pos hl] at hp4
        exact ⟨by rw [All3.len r3]; exact hl.2, kw_go (fa := fa) (fd := fd) (ps := ps) hd R3 r4 r3 n3 (S1.dropL.trans S3) hp4⟩
      · rw [if_neg hl] at hp4
        exact hp4.elim
    · rw [if_neg hl] at hp2
      exact hp2.elim

theorem run_makeKw {CX : CXT} {f Ca : Addr} {fd : FuncData} {ps : List Str} {sp : Sp} {dvs : List V} {its : List Value} {E : XK} {pins : List (Addr × Obj)} {σ : St} {H : Hp} {s : Shared} {Q : VK} {us ws : List Value} {vs zs : List V} (M : Mk X.K Ca f) (F : FnOk X.prog X.w X.K X.mg X.base CX k f fd ps sp) (hr : Room (k + 1) X.A) (hb : KwB X.K fd ps (n + 1) ks code its) (hd : Vals dvs its)
    (hx : PassesAt CX X σ E) (I : Inv X pins σ H s) (r : Vals vs us) (rz : Vals zs ws) (l1 : vs.length = n) (l2 : zs.length = ks.length)
    (h : ∀ x dx, H x = none → H dx = none → dx ≠ x → sp (pickL code (.ref x :: (vs ++ (zs ++ dvs)))) (upd (upd H dx (.own x)) x (.ins Ca dx [])) (fun v H2 => v = .non ∧ Q (.ref x) H2) E) :
    wpAny (model X.prog X.w) X.A (call (.ref Ca) us (ks.zip ws)) (EP X pins σ Q) X.xe s := by
  have hq := h (s.heap.objs.size + 1) s.heap.objs.size (I.hok.fresh (Nat.le_succ _)) (I.hok.fresh (Nat.le_refl _)) (Nat.ne_of_lt (Nat.lt_succ_self _))
  have I2 := Inv.made (C := Ca) I
  have r2 : Vals (pickL code (V.ref (s.heap.objs.size + 1) :: (vs ++ (zs ++ dvs)))) (pickL code (Value.ref (s.heap.objs.size + 1) :: us ++ (ws ++ its))) := vals_pick (.cons rfl (r.append (rz.append hd)))
  refine wpAny_call (make_map (f := f) I.kIn M.makes M.init (beq_iff_eq.mp M.fn) (codeAny_mono (F.run _ X.stack _ _ ⟨Value.ref (s.heap.objs.size + 1) :: us, ks.zip ws⟩ (pickL code (Value.ref (s.heap.objs.size + 1) :: us ++ (ws ++ its))) _ _ E (hr.make Ca us (ks.zip ws))
    (I2.env0.make Ca us (ks.zip ws)) (hb _ (Value.ref (s.heap.objs.size + 1) :: us) ws I2.kIn (by rw [List.length_cons, ← r.length, l1]) (by rw [← rz.length, l2])) r2 hq) fun r s' hq' => ?_))
  cases r with
  | error e => exact hx pins _ _ e s' I2 hq'
  | ok fl =>
    cases fl with
    | ret u =>
      obtain ⟨v, H', I3, rv, ev, q3⟩ := I2.after hq'
      subst ev
      exact ⟨rv, ⟨V.ref (s.heap.objs.size + 1), H', I3, rfl, q3⟩⟩
    | next => exact False.elim hq'
    | brk => exact False.elim hq'
    | cont => exact False.elim hq'
theorem new_go {os : List Op} {vs : List V} {x dx : Addr} {f : List Addr} (R : Rel X.K s0 s st w fp) (ho : All3 (OpR X.K st w) os vs fo) (nd : (fo ++ fp).Nodup) (S : Stp w0 fp0 w (fo ++ fp)) (hx : w.H x = none) (hdx : w.H dx = none) :
    ∃ fp', Rel X.K s0 { s with S := s.S ++ [⟨C, []⟩] } st (w.new x dx (.own x) (.ins (He.ga X.K C) dx [])) fp' ∧ All3 (OpR X.K st (w.new x dx (.own x) (.ins (He.ga X.K C) dx []))) (.val (.obj s.S.length) 0 :: os) (.ref x :: vs) fo ∧ (fo ++ fp').Nodup ∧ Stp w0 fp0 (w.new x dx (.own x) (.ins (He.ga X.K C) dx [])) (fo ++ fp') ∧ (w.new x dx (.own x) (.ins (He.ga X.K C) dx [])).mu s.S.length = x ∧ s.S.length < (w.new x dx (.own x) (.ins (He.ga X.K C) dx [])).N := by
  obtain ⟨fe, fs, ef, q1, q2⟩ := R.parts
  have S0 : Stp w [] (w.new x dx (.own x) (.ins (He.ga X.K C) dx [])) [x] := new_stp R.ok hx hdx
  have S1 : Stp w (fo ++ fp) (w.new x dx (.own x) (.ins (He.ga X.K C) dx [])) (x :: (fo ++ fp)) := new_stp R.ok hx hdx
  have hN : w.N = s.S.length := R.N
  have hmu : (w.new x dx (.own x) (.ins (He.ga X.K C) dx [])).mu s.S.length = x := if_pos hN.symm
  have hxp : x ∉ fp := fun m => (R.dom x m).1 hx
  have hxo : x ∉ fo := fun m => (all3_dom ho x m).1 hx
  have q1' := all3_keep q1 S0 (fun a _ => List.not_mem_nil)
  have q2' := InsR.keep (K := X.K) S0.fz (n := 0) (by rw [Nat.zero_add, hN]; exact Nat.le_refl _) (fun a ha o h1 h2 => ⟨S0.hp a o h1 List.not_mem_nil, (S0.un a o h1 List.not_mem_nil).trans h2⟩) q2
  have one : OneR X.K (w.new x dx (.own x) (.ins (He.ga X.K C) dx [])) (0 + s.S.length) ⟨C, []⟩ [x] := by
    refine ⟨dx, [], [], ?_, ?_, ?_, rfl⟩
    · rw [Nat.zero_add, hmu]
      exact upd_same
    · rw [Nat.zero_add, hmu]
      exact R.ok.none hx
    · rw [Nat.zero_add, hmu]
  refine ⟨fe ++ (fs ++ [x]), ⟨S0.ok, ?_, ⟨fe, fs ++ [x], rfl, q1', insR_snoc q2' one⟩, ?_, R.pin⟩, ⟨[], fo, rfl, ?_, all3_stp ho S0 (fun a _ => List.not_mem_nil)⟩, ?_, ?_, hmu, ?_⟩
  · show w.N + 1 = (s.S ++ ([⟨C, []⟩] : List Inst)).length
    rw [List.length_append, hN]
    rfl
  · rw [← List.append_assoc, ← ef]
    exact List.nodup_append.mpr ⟨R.nd, by simp, fun a ha b hb e => hxp (by rw [List.mem_singleton.mp hb] at e; rw [← e]; exact ha)⟩
  · have := op_obj (X := X) (st := st) (w := w.new x dx (.own x) (.ins (He.ga X.K C) dx [])) (n := s.S.length) (by show s.S.length < w.N + 1; omega)
    rw [hmu] at this
    exact this
  · rw [← List.append_assoc fe, ← ef, ← List.append_assoc]
    exact List.nodup_append.mpr ⟨nd, by simp, fun a ha b hb e => by
      rw [List.mem_singleton.mp hb] at e
      rw [e] at ha
      rcases List.mem_append.mp ha with m | m
      · exact hxo m
      · exact hxp m⟩
  · exact (S.trans S1).sub fun a m => by
      rw [ef]
      simp only [List.mem_append, List.mem_cons, List.mem_singleton, List.not_mem_nil, or_false] at m ⊢
      grind
  · show s.S.length < w.N + 1
    omega
/-- what a class's call leaves, from the run of __init__ -/
theorem mk_end {a : List Op} {va : List V} {fa : List Addr} {Q : VK} {x : Addr} {S' : List Inst} {nn : Nat} {wN : Wd} {fpN : List Addr} (R : Rel X.K s0 { s with S := S' } st wN fpN) (ra : All3 (OpR X.K st wN) a va fa) (nd : (fa ++ fpN).Nodup) (S2 : Stp w0 fp0 wN (fa ++ fpN)) (hmu : wN.mu nn = x) (hlt : nn < wN.N)
    (hp : Post X wx (RE X.K st) s0 st w0 fp0 (bnd (callO' fn np [] a) (fun o => if noneO o = true then ret (.val (.obj nn) 0) else stuck) { s with S := S' }) Q) :
    spOf X.K np fn va wN.H (fun v H2 => v = .non ∧ Q (.ref x) H2) (WE wx st) := by
  by_cases hnp : a.length + ([] : List D).length = np
  · have z := sp_call (w0 := wN) (fp0 := fa ++ fpN) (vs := va) (dfl := []) (dvs := []) (np := np) (f := fn) (wx := wx) (Q := fun v H2 => v = .non ∧ Q (.ref x) H2) (fun _ => rfl) (by rw [All3.len ra]; exact hnp) R ra nd (Stp.refl R.ok) ?_
    · rw [List.append_nil] at z
      exact z
    suffices key2 : Post X wx (RE X.K st) s0 st wN (fa ++ fpN) (callO' fn np [] a { s with S := S' }) (fun v H2 => v = .non ∧ Q (.ref x) H2) by
      unfold callO' at key2
      rw [if_pos hnp] at key2
      exact key2
    unfold bnd at hp
    generalize callO' fn np [] a { s with S := S' } = r at hp ⊢
    cases r with
    | no => exact hp.elim
    | ex y s2 =>
      intro c d2 w2 fp2 R2 SS ex
      exact hp c d2 w2 fp2 R2 (S2.trans SS) ex
    | ok o s2 =>
      dsimp only at hp
      intro b w2 fo2 fp2 R2 r2 n2 SS
      by_cases hno : noneO o = true
      · rw [if_pos hno] at hp
        cases o with
        | slot i => cases hno
        | val d k =>
          cases d with
          | non =>
            cases k with
            | succ k => cases hno
            | zero =>
              obtain ⟨e1, e2⟩ := (show Vx (w2.fz X.K) .non b ∧ fo2 = [] from r2)
              subst e2
              refine ⟨e1, hp (.ref x) w2 [] fp2 R2 ?_ R2.nd (S2.trans SS)⟩
              have := op_obj (X := X) (st := st) (w := w2) (n := nn) (Nat.lt_of_lt_of_le hlt SS.le)
              rw [SS.mu nn hlt, hmu] at this
              exact this
          | _ => cases hno
      · rw [if_neg hno] at hp
        exact hp.elim
  · unfold bnd callO' at hp
    rw [if_neg hnp] at hp
    exact hp.elim
theorem mkK_go {dvs : List V} {os zo : List Op} {vs zs : List V} {f1 f2 : List Addr} {Q : VK} {x dx : Addr} (hd : DflOk dfl dvs) (R : Rel X.K s0 s st w fp) (h1 : All3 (OpR X.K st w) os vs f1) (h2 : All3 (OpR X.K st w) zo zs f2) (nd : (f1 ++ (f2 ++ fp)).Nodup) (S : Stp w0 fp0 w (f1 ++ (f2 ++ fp)))
    (hp : Post X wx (RE X.K st) s0 st w0 fp0 (mkKI C fn np code dfl os zo s) Q) (hx : w.H x = none) (hdx : w.H dx = none) :
    spOf X.K np fn (pickL code (.ref x :: (vs ++ (zs ++ dvs)))) (upd (upd w.H dx (.own x)) x (.ins (He.ga X.K C) dx [])) (fun v H2 => v = .non ∧ Q (.ref x) H2) (WE wx st) := by
  have q := All3.append h1 (All3.append h2 (dfl_ops (st := st) (hd (w.fz X.K))))
  rw [List.append_nil] at q
  obtain ⟨fp', R', r', nd', S', hmu, hlt⟩ := new_go (C := C) (f := []) R q (by rw [List.append_assoc]; exact nd) (by rw [List.append_assoc]; exact S) hx hdx
  obtain ⟨fo', rest, q1, q2⟩ := all3_pick (code := code) r'
  have sub : ∀ y ∈ fo', y ∈ f1 ++ f2 := fun y hy => q2.mem_iff.mpr (List.mem_append_left _ hy)
  obtain ⟨a1, a2, a3⟩ := List.nodup_append.mp nd'
  have ndq : (fo' ++ rest).Nodup := q2.nodup_iff.mp a1
  refine mk_end (w0 := w0) (fp0 := fp0) (nn := s.S.length) R' q1 ?_ (S'.sub fun y hy => ?_) hmu hlt hp
  · exact List.nodup_append.mpr ⟨(List.nodup_append.mp ndq).1, a2, fun y hy z hz => a3 y (sub y hy) z hz⟩
  · rcases List.mem_append.mp hy with hy | hy
    · exact List.mem_append_left _ (sub y hy)
    · exact List.mem_append_right _ hy
theorem ce_mkK {nk : Nat} (c : CalIK X.prog X.w X.K X.mg X.base k C np fn n ks code dfl) (hr : Room j X.A) (hk : k + 1 ≤ j) (tk : Takes X wx) (hg : Gl X C) (ha : CA X wx (e :: es) ms) (hkw : CK X wx kws mk) (hnk : ks.length = nk := by rfl) (hall : (backToKw pos (keywordEach kws X.env)).all (·.1.isSome) = true := by rfl) (hks : (backToKw pos (keywordEach kws X.env)).filterMap (·.1) = ks := by rfl)
    (hdb : (C == ("__debug__" : Str)) = false := by decide) (he : starEach (e :: es) X.env = (false, eval e X.env) :: starEach es X.env := by rfl)
    (hpl : ((backTo pos (starEach (e :: es) X.env)).any (·.1) || (backToKw pos (keywordEach kws X.env)).any (·.1.isNone)) = false := by rfl) :
    CE X wx (.Call (.Name C p) (e :: es) kws pos) (mkK C fn np n nk code dfl ms mk) := by
  subst hnk
  obtain ⟨fa, fd, ps, its, dvs, hM, hm, F, b, hv, hd⟩ := c.ex
  refine ⟨fun s0 s st w fp Q R hp => ⟨fun st H Q => WA X (e :: es) st H fun vs H1 => WK X kws st H1 fun zs H2 => vs.length = n ∧ zs.length = ks.length ∧ ∀ x dx, H2 x = none → H2 dx = none → dx ≠ x → spOf X.K np fn (pickL code (.ref x :: (vs ++ (zs ++ dvs)))) (upd (upd H2 dx (.own x)) x (.ins (He.ga X.K C) dx [])) (fun v H2 => v = .non ∧ Q (.ref x) H2) (WE wx st), ⟨fun pins s st H Q I h => ?_⟩, ?_⟩⟩
  · refine wpAny_Call_Name_kw (ld_glob I hg hm ?_ hdb)
    refine PySem.W.callWith_KW (h₀ := X.base) I.ok.mod.kin hM.kp hall (thn (pa_W.run pos pins s st H _ I h) fun us s1 ⟨vs, H1, I1, r, q⟩ => ?_) hpl he
    refine thn (pk_W.run pos pins s1 st H1 _ I1 q) fun ws s2 ⟨zs, H2, I2, rz, l1, l2, q2⟩ => ⟨I2.kIn, ?_⟩
    rw [hks]
    exact run_makeKw hM F (hr.mono hk) b hv (passAt tk st) I2 r rz l1 l2 q2
  · refine ha.go R (Stp.refl R.ok) hp fun os s1 vs w1 f1 fp1 R1 r1 n1 S1 hp1 => ?_
    refine hkw.go R1 S1.dropL hp1 fun zo s2 zs w2 f2 fp2 R2 r2 n2 S2 hp2 => ?_
    have r1' := all3_stp r1 S2 (nd_dis n1)
    have n3 : (f1 ++ (f2 ++ fp2)).Nodup := S2.nodup n1 (fun z hz => (all3_dom r1 z hz).1) n2
    by_cases hl : os.length = n ∧ zo.length = ks.length
    · rw [if_pos hl] at hp2
      exact ⟨by rw [All3.len r1]; exact hl.1, by rw [All3.len r2]; exact hl.2, fun x dx hx hdx _ => mkK_go hd R2 r1' r2 n3 (S1.trans S2.beside) hp2 hx hdx⟩
    · rw [if_neg hl] at hp2
      exact hp2.elim
theorem ce_mkK0 {nk : Nat} (c : CalIK X.prog X.w X.K X.mg X.base k C np fn 0 ks code dfl) (hr : Room j X.A) (hk : k + 1 ≤ j) (tk : Takes X wx) (hg : Gl X C) (hkw : CK X wx kws mk) (hnk : ks.length = nk := by rfl) (hall : (backToKw pos (keywordEach kws X.env)).all (·.1.isSome) = true := by rfl) (hks : (backToKw pos (keywordEach kws X.env)).filterMap (·.1) = ks := by rfl)
    (hdb : (C == ("__debug__" : Str)) = false := by decide)
    (hpl : ((backTo pos (starEach [] X.env)).any (·.1) || (backToKw pos (keywordEach kws X.env)).any (·.1.isNone)) = false := by rfl) :
    CE X wx (.Call (.Name C p) [] kws pos) (mkK C fn np 0 nk code dfl evN mk) := by
  subst hnk
  obtain ⟨fa, fd, ps, its, dvs, hM, hm, F, b, hv, hd⟩ := c.ex
  refine ⟨fun s0 s st w fp Q R hp => ⟨fun st H Q => WK X kws st H fun zs H2 => zs.length = ks.length ∧ ∀ x dx, H2 x = none → H2 dx = none → dx ≠ x → spOf X.K np fn (pickL code (.ref x :: ([] ++ (zs ++ dvs)))) (upd (upd H2 dx (.own x)) x (.ins (He.ga X.K C) dx [])) (fun v H2 => v = .non ∧ Q (.ref x) H2) (WE wx st), ⟨fun pins s st H Q I h => ?_⟩, ?_⟩⟩
  · refine wpAny_Call_Name_kw (ld_glob I hg hm ?_ hdb)
    refine PySem.W.callWith_KW0 (h₀ := X.base) I.ok.mod.kin hM.kp hall (thn (pk_W.run pos pins s st H _ I h) fun ws s2 ⟨zs, H2, I2, rz, l2, q2⟩ => ⟨I2.kIn, ?_⟩) hpl
    rw [hks]
    exact run_makeKw (us := []) (vs := []) hM F (hr.mono hk) b hv (passAt tk st) I2 .nil rz rfl l2 q2
  · have hp1 : Post X wx (RE X.K st) s0 st w fp (bnd mk (fun zs => if ([] : List Op).length = 0 ∧ zs.length = ks.length then mkKI C fn np code dfl [] zs else stuck) s) Q := hp
    refine hkw.go R (Stp.refl R.ok) hp1 fun zo s2 zs w2 f2 fp2 R2 r2 n2 S2 hp2 => ?_
    by_cases hl : ([] : List Op).length = 0 ∧ zo.length = ks.length
    · rw [if_pos hl] at hp2
      exact ⟨by rw [All3.len r2]; exact hl.2, fun x dx hx hdx _ => mkK_go (os := []) (vs := []) (f1 := []) hd R2 rfl r2 n2 S2 hp2 hx hdx⟩
    · rw [if_neg hl] at hp2
      exact hp2.elim
end
end Mi

set_option Elab.async false
set_option linter.all false
set_option maxRecDepth 100000
set_option maxHeartbeats 4000000
namespace Mi
open PySem L2

/-! ### a dict's lock, its items, its values -/
def lckM (m : M Op) : M Op := bnd m fun o => match o with
  | .val (.dct kvs) 1 => ret (.val (.dct kvs) 0)
  | .slot i => fun s => match s.r[i]? with
    | some (some ⟨.dct kvs, 1, p⟩) => .ok (.slot i) { s with r := s.r.set i (some ⟨.dct kvs, 0, p⟩) }
    | _ => .ok (.slot i) s
  | o => ret o
def itemD (p : Key × D) : D := .tup [keyD p.1, p.2]
def itemsD (kvs : List (Key × D)) : List D := kvs.map itemD
def valsD (kvs : List (Key × D)) : List D := kvs.map (·.2)
def dsM (g : List (Key × D) → List D) (m : M Op) : M Src := bnd (lckM m) fun o => bnd (look o) fun p => match p.1 with
  | .dct kvs => if p.2 = 0 then ret (.fix (g kvs)) else stuck
  | _ => stuck
section
variable {X : Cx} {wx : WX} {s0 st : St} {s s' : Sx} {w w0 w1 : Wd} {fp fp0 fp1 fo g : List Addr} {Q : It → Hp → Prop}
theorem lck_slot {i : Nat} {kvs : List (Key × D)} {p : Bool} {v : V} (R : Rel X.K s0 s st w fp) (h1 : st[i]? = some (some v)) (e : s.r[i]? = some (some ⟨.dct kvs, 1, p⟩)) :
    ∃ a kv, v = .ref a ∧ w.H a = some (.dK kv) ∧ ∀ od, Rel X.K s0 { s with r := s.r.set i (some ⟨.dct kvs, 0, p⟩) } st (w.lck a (.frz od (.dK kv))) (fp.filter (· ≠ a)) ∧ Stp w fp (w.lck a (.frz od (.dK kv))) (fp.filter (· ≠ a)) := by
  obtain ⟨fe, fs, ef, q1, q2⟩ := R.parts
  have at' : ∀ {sl : Slot}, s.r[i]? = some (some sl) → ∃ f, Ow X.K w sl.k sl.d v f ∧ (∀ x ∈ f, x ∈ fe) ∧ ∃ f1 f2, fe = f1 ++ f ++ f2 ∧ ∀ (o' : Option Slot) f', SlR X.K w o' (some v) f' → All3 (SlR X.K w) (s.r.set i o') st (f1 ++ f' ++ f2) := fun {sl} e => by
    obtain ⟨b, f1, f, f2, hb, hf, hpp, hset⟩ := q1.at e
    rw [h1] at hb
    cases hb
    refine ⟨f, hpp, fun x m => by rw [hf]; simp [m], f1, f2, hf, fun o' f' h' => ?_⟩
    have q := hset o' (some v) f' h'
    have est : st.set i (some v) = st := by
      apply List.ext_getElem?
      intro j
      by_cases hj : j = i
      · subst hj
        rw [List.getElem?_set_self (List.getElem?_eq_some_iff.mp h1).1, h1]
      · rw [List.getElem?_set_ne (Ne.symm hj)]
    rw [est] at q
    exact q
  obtain ⟨f, ow, hsub, f1, f2, hfe, hset⟩ := at' e
  obtain ⟨a, kv, g', e1, h3, n1, e2, t⟩ := (show Ow X.K w 1 (.dct kvs) v f from ow)
  subst e1
  refine ⟨a, kv, rfl, h3, fun od => ?_⟩
  have hm : a ∈ f := by rw [e2]; exact List.mem_cons_self ..
  have nd0 : (f1 ++ f ++ f2 ++ fs).Nodup := by
    rw [← hfe, ← ef]
    exact R.nd
  have hsub2 : ∀ x ∈ f1 ++ [] ++ f2 ++ fs, x ∈ fp := fun x m => by
    rw [ef, hfe]
    simp only [List.append_nil, List.mem_append] at m ⊢
    grind
  have hna : a ∉ f1 ++ [] ++ f2 ++ fs := fun m => by
    simp only [List.append_nil, List.nodup_append, List.mem_append] at nd0 m
    grind
  have hafp : a ∈ fp := by
    rw [ef, hfe]
    simp [hm]
  have SL : Stp w fp (w.lck a (.frz od (.dK kv))) (f1 ++ [] ++ f2 ++ fs) := lck_stp R.ok hafp n1 hsub2
  have kp : ∀ x ∈ f1 ++ [] ++ f2 ++ fs, ∀ o, w.H x = some o → w.F x = none → (w.lck a (.frz od (.dK kv))).H x = some o ∧ (w.lck a (.frz od (.dK kv))).F x = none := fun x m o ho hn => by
    have hxa : x ≠ a := fun z => hna (z ▸ m)
    exact ⟨(upd_ne hxa).trans ho, (upd_ne hxa).trans hn⟩
  -- the slot, locked
  have q3 : All3 (SlR X.K (w.lck a (.frz od (.dK kv)))) (s.r.set i (some ⟨.dct kvs, 0, p⟩)) st (f1 ++ [] ++ f2) := by
    have q4 : All3 (SlR X.K (w.lck a (.frz od (.dK kv)))) (s.r.set i none) st (f1 ++ [] ++ f2) := All3.imp (fun a' b' f' _ hf' q => q.keep SL.fz fun x hx => kp x (List.mem_append_left _ (hf' x hx))) (hset none [] rfl)
    have hil : i < s.r.length := (List.getElem?_eq_some_iff.mp e).1
    obtain ⟨b', g1, g, g2, hb', hg, hp2, hset2⟩ := q4.at (i := i) (a := none) (List.getElem?_set_self hil)
    have eg : g = [] := hp2
    have q5 := hset2 (some ⟨.dct kvs, 0, p⟩) (some (.ref a)) [] ⟨⟨a, kv, rfl, ⟨od, upd_same⟩, VxD.mono SL.fz _ _ (all0D t)⟩, rfl⟩
    have est : st.set i (some (.ref a)) = st := by
      apply List.ext_getElem?
      intro j
      by_cases hj : j = i
      · subst hj
        rw [List.getElem?_set_self (List.getElem?_eq_some_iff.mp h1).1, h1]
      · rw [List.getElem?_set_ne (Ne.symm hj)]
    rw [List.set_set, est] at q5
    rw [hg, eg]
    exact q5
  have R' : Rel X.K s0 { s with r := s.r.set i (some ⟨.dct kvs, 0, p⟩) } st (w.lck a (.frz od (.dK kv))) (f1 ++ [] ++ f2 ++ fs) := by
    refine ⟨SL.ok, R.N, ⟨_, fs, rfl, q3, q2.keep SL.fz (by have := R.N; show 0 + s.S.length ≤ w.N; omega) fun x hx => kp x (List.mem_append_right _ hx)⟩, ?_, fun j sl hj hpj => ?_⟩
    · simp only [List.append_nil, List.nodup_append, List.mem_append] at nd0 ⊢
      grind
    · by_cases hji : j = i
      · subst hji
        have hj' : (s.r.set j (some ⟨.dct kvs, 0, p⟩))[j]? = some (some sl) := hj
        rw [List.getElem?_set_self (List.getElem?_eq_some_iff.mp e).1] at hj'
        cases hj'
        exact R.pin j _ e hpj
      · have hj' : (s.r.set i (some ⟨.dct kvs, 0, p⟩))[j]? = some (some sl) := hj
        rw [List.getElem?_set_ne (Ne.symm hji)] at hj'
        exact R.pin j sl hj' hpj
  have efp : fp.filter (· ≠ a) = f1 ++ [] ++ f2 ++ fs := by
    have ef2 : f = [a] := by
      rw [e2]
      have : g' = [] := by
        have key : ∀ {ds : List (Key × D)} {kv : List (Key × V)} {g : List Addr}, All3 (fun (a : Key × D) (b : Key × V) f => a.1 = b.1 ∧ Ow X.K w 0 a.2 b.2 f) ds kv g → g = [] := by
          intro ds
          induction ds with
          | nil =>
            intro kv g t
            cases kv with
            | nil => exact t
            | cons _ _ => exact t.elim
          | cons d ds ih =>
            intro kv g t
            cases kv with
            | nil => exact t.elim
            | cons x xs =>
              obtain ⟨f, g', e, h, t⟩ := t
              rw [e, h.2.2, ih t]
              rfl
        exact key t
      rw [this]
    rw [ef, hfe, ef2]
    rw [ef2] at nd0
    simp only [List.append_nil, List.append_assoc] at nd0 hna ⊢
    rw [List.filter_append, List.filter_append, List.filter_append]
    have nn : ∀ l : List Addr, a ∉ l → l.filter (· ≠ a) = l := fun l hl => List.filter_eq_self.mpr fun x hx => by
      have : x ≠ a := fun z => hl (z ▸ hx)
      simpa using this
    have h1 : a ∉ f1 := fun m => hna (by simp [m])
    have h2 : a ∉ f2 := fun m => hna (by simp [m])
    have h3 : a ∉ fs := fun m => hna (by simp [m])
    rw [nn f1 h1, nn f2 h2, nn fs h3]
    simp
  rw [efp]
  exact ⟨R', SL⟩
theorem ce_lck {e : Expr} {m : M Op} (he : CE X wx e m) : CE X wx e (lckM m) := by
  refine ⟨fun s0 s st w fp Q R hp => ⟨_, pe_lock pe_W, ?_⟩⟩
  refine he.go R (Stp.refl R.ok) hp fun o s1 v w1 f1 fp1 R1 r1 n1 S1 hp1 => ?_
  have plain : Post X wx (RE X.K st) s0 st w fp (ret o s1) Q → (Q v w1.H ∨ ∃ d u, w1.H d = some u ∧ Mut (some u) ∧ ∀ od, Q v (upd w1.H d (.frz od u))) := fun hp => .inl (hp v w1 f1 fp1 R1 r1 n1 S1)
  cases o with
  | slot i =>
    have r1' := r1
    obtain ⟨h1, h2⟩ := r1'
    subst h2
    dsimp only at hp1
    split at hp1
    · rename_i kvs p e
      obtain ⟨a, kv, rfl, h3, k⟩ := lck_slot R1 h1 e
      refine .inr ⟨a, .dK kv, h3, trivial, fun od => ?_⟩
      obtain ⟨R', S'⟩ := k od
      exact hp1 (.ref a) (w1.lck a (.frz od (.dK kv))) [] _ R' ⟨h1, rfl⟩ R'.nd (S1.trans S')
    · exact plain hp1
  | val d k =>
    cases d with
    | dct kvs =>
      match k, r1, hp1, plain with
      | 0, r1, hp1, plain => exact plain hp1
      | 1, r1, hp1, _ =>
        have hdis := nd_dis n1
        obtain ⟨p, kv, g', e1, h1, hn1, e2, t⟩ := r1
        refine .inr ⟨p, .dK kv, h1, trivial, fun od => ?_⟩
        have hm : p ∈ f1 := by rw [e2]; exact List.mem_cons_self ..
        have R' := rel_lck (u := .frz od (.dK kv)) R1 hn1 (hdis p hm)
        have S' : Stp w fp (w1.lck p (.frz od (.dK kv))) fp1 := S1.trans (lck_stp R1.ok (List.mem_append_left _ hm) hn1 fun x m => List.mem_append_right _ m)
        have hp2 : Post X wx (RE X.K st) s0 st w fp (ret (.val (.dct kvs) 0) s1) Q := hp1
        refine hp2 v (w1.lck p (.frz od (.dK kv))) [] fp1 R' ⟨⟨p, kv, e1, ⟨od, upd_same⟩, ?_⟩, rfl⟩ R'.nd S'
        exact VxD.mono ((lck_stp (fp' := []) R1.ok (List.mem_singleton_self p) hn1 fun x m => nomatch m).fz) _ _ (all0D t)
      | k + 2, r1, hp1, plain => exact plain hp1
    | _ => exact plain hp1
theorem VxD.at_ {r : Rp} : ∀ {ds : List (Key × D)} {kv : List (Key × V)} {i : Nat} {p : Key × D}, VxD r ds kv → ds[i]? = some p → ∃ v, kv[i]? = some (p.1, v) ∧ Vx r p.2 v
  | [], _, _, _, _, e => by cases e
  | (k, d) :: ds, _, 0, _, ⟨v, t, e, h, g⟩, z => by
    cases z
    exact ⟨v, by rw [e] <;> rfl, h⟩
  | (k, d) :: ds, _, i + 1, _, ⟨v, t, e, h, g⟩, z => by
    obtain ⟨v', h1, h2⟩ := VxD.at_ (i := i) g z
    exact ⟨v', by rw [e] <;> exact h1, h2⟩
theorem fix_items {d : Addr} {o : Obj} {ds : List (Key × D)} {kvs : List (Key × V)} (hF : w.F d = some (.frz o (.dK kvs))) (t : VxD (w.fz X.K) ds kvs) : FixR X.K w (itemsD ds) (Iti d o kvs) := by
  intro w' ok L
  have hq : w'.H d = some (.frz o (.dK kvs)) := ok _ _ (L.sq _ _ hF)
  have W := walk_items (d := d) (o := o) (kvs := kvs)
  have t' := VxD.mono L _ _ t
  have hl : (itemsD ds).length = kvs.length := by
    unfold itemsD
    rw [List.length_map, t.len]
  refine ⟨fun i d' hd => ?_, by rw [hl]; exact W.stops _ hq⟩
  unfold itemsD at hd
  rw [List.getElem?_map] at hd
  obtain ⟨p, hp, rfl⟩ := Option.map_eq_some_iff.mp hd
  obtain ⟨v, hv, vx⟩ := t'.at_ hp
  have hi : i < kvs.length := (List.getElem?_eq_some_iff.mp hv).1
  refine ⟨W.goes i _ hi hq, fun x H' y => ?_⟩
  obtain ⟨T, a, b, rfl, hT, rfl, ha, hb⟩ := W.yields i _ x H' hi hq y
  dsimp only at ha hb
  rw [hv] at ha hb
  cases ha
  cases hb
  exact yl_tup ok ⟨_, _, rfl, keyD_vx p.1, _, _, rfl, vx, rfl⟩ hT
theorem fix_vals {d : Addr} {o : Obj} {ds : List (Key × D)} {kvs : List (Key × V)} (hF : w.F d = some (.frz o (.dK kvs))) (t : VxD (w.fz X.K) ds kvs) : FixR X.K w (valsD ds) (Itd d o kvs) := by
  intro w' ok L
  have hq : w'.H d = some (.frz o (.dK kvs)) := ok _ _ (L.sq _ _ hF)
  have t' := VxD.mono L _ _ t
  have hl : (valsD ds).length = kvs.length := by
    unfold valsD
    rw [List.length_map, t.len]
  refine ⟨fun i d' hd => ?_, by rw [hl]; exact ⟨hq, Nat.le_refl _⟩⟩
  unfold valsD at hd
  rw [List.getElem?_map] at hd
  obtain ⟨p, hp, rfl⟩ := Option.map_eq_some_iff.mp hd
  obtain ⟨v, hv, vx⟩ := t'.at_ hp
  have hi : i < kvs.length := (List.getElem?_eq_some_iff.mp hv).1
  refine ⟨⟨hq, hi⟩, fun x H' y => ?_⟩
  obtain ⟨rfl, k, hk⟩ := y
  rw [hv] at hk
  cases hk
  exact yl_same ok vx
theorem ds_go {gg : List (Key × D) → List D} {J : Addr → Obj → List (Key × V) → It} {o : Op} {v : V} (hJ : ∀ w : Wd, ∀ d o (ds : List (Key × D)) kvs, w.F d = some (.frz o (.dK kvs)) → VxD (w.fz X.K) ds kvs → FixR X.K w (gg ds) (J d o kvs)) (R : Rel X.K s0 s st w fp) (h : OpR X.K st w o v fo) (n : (fo ++ fp).Nodup) (S : Stp w0 fp0 w (fo ++ fp))
    (hp : Post X wx (RI X.K st) s0 st w0 fp0 (bnd (look o) (fun p => match p.1 with
      | .dct kvs => if p.2 = 0 then ret (.fix (gg kvs)) else stuck
      | _ => stuck) s) Q) : ∃ d ob kvs, v = .ref d ∧ w.H d = some (.frz ob (.dK kvs)) ∧ Q (J d ob kvs) w.H := by
  unfold bnd at hp
  cases hl : look o s with
  | no =>
    rw [hl] at hp
    exact hp.elim
  | ex x s1 => exact (look_no hl).elim
  | ok p s1 =>
    rw [hl] at hp
    obtain ⟨d, k⟩ := p
    obtain ⟨rfl, ⟨f0, q, _⟩⟩ := look_ok R h hl
    dsimp only at hp
    cases d with
    | dct kvs =>
      dsimp only at hp
      by_cases hk : k = 0
      · rw [if_pos hk] at hp
        subst hk
        obtain ⟨⟨a, kv, e1, ⟨ob, hF⟩, t⟩, _⟩ := q
        exact ⟨a, ob, kv, e1, R.ok _ _ hF, fix_end hp R S (hJ w a ob kvs kv hF t)⟩
      · rw [if_neg hk] at hp
        exact hp.elim
    | _ => exact hp.elim
theorem ci_items {elts : List Expr} {kk : Nat} {tpos apos cpos : Pos} {e : Expr} {m : M Op} (he : CE X wx e m) (hbase : attributeBase e "items" X.env (eval e X.env) = eval e X.env := by rfl) (hline : (apos.endLine == cpos.line) = true := by rfl) :
    CI X wx (.Tuple elts kk tpos) (.Call (.Attribute e "items" apos) [] [] cpos) (dsM itemsD m) := by
  refine ⟨fun s0 s st w fp Q R hp => ⟨_, pi_items pe_W hbase hline, ?_⟩⟩
  refine (ce_lck he).go R (Stp.refl R.ok) hp fun o s1 v w1 f1 fp1 R1 r1 n1 S1 hp1 => ?_
  exact ds_go (J := Iti) (fun w d o ds kvs h t => fix_items h t) R1 r1 n1 S1 hp1
theorem ci_vals {tg e : Expr} {apos cpos : Pos} {m : M Op} (he : CE X wx e m) (hbase : attributeBase e "values" X.env (eval e X.env) = eval e X.env := by rfl) (hline : (apos.endLine == cpos.line) = true := by rfl) :
    CI X wx tg (.Call (.Attribute e "values" apos) [] [] cpos) (dsM valsD m) := by
  refine ⟨fun s0 s st w fp Q R hp => ⟨_, pi_values pe_W hbase hline, ?_⟩⟩
  refine (ce_lck he).go R (Stp.refl R.ok) hp fun o s1 v w1 f1 fp1 R1 r1 n1 S1 hp1 => ?_
  exact ds_go (J := Itd) (fun w d o ds kvs h t => fix_vals h t) R1 r1 n1 S1 hp1

/-! ### lists made longer -/
def extF : List D → List D → Option (List D × D)
  | ds, [.lst es] => if ds.length + es.length ≤ cap then some (ds ++ es, .non) else none
  | _, _ => none
/-- .. whose argument is read -/
def LMw (X : Cx) (r : V → List V → Hp → VK → Prop) (f : List D → List D → Option (List D × D)) : Prop := ∀ (w : Wd) (l : Addr) (xs vs : List V) (ds es ds' : List D) (rd : D) (Q : VK), w.Ok → w.H l = some (.lst xs) → VxL (w.fz X.K) ds xs → VxL (w.fz X.K) es vs → f ds es = some (ds', rd) →
  (∀ xs' rv, VxL (w.fz X.K) ds' xs' → Vx (w.fz X.K) rd rv → Q rv (upd w.H l (.lst xs'))) → r (.ref l) vs w.H Q
theorem lmw_ext : LMw X rExtend extF := by
  intro w l xs vs ds es ds' rd Q ok h t te ef k
  unfold extF at ef
  split at ef
  · rename_i ds1 es1
    split at ef
    · rename_i hl
      cases ef
      obtain ⟨v, rfl, vx⟩ := vxl1 te
      obtain ⟨b, zs, rfl, hb, tb⟩ := vx
      refine ⟨l, b, xs, zs, rfl, rfl, h, ok _ _ hb, ?_, k _ _ (VxL.append t tb) rfl⟩
      rw [t.length, tb.length]
      exact cap_line hl
    · cases ef
  · cases ef
theorem lmw_read {o : Expr} {JA : TA} {m : M Op} {ms : M (List Op)} {r : V → List V → Hp → VK → Prop} {f : List D → List D → Option (List D × D)} {Q : VK} (hf : LMw X r f) (ho : CE X wx o m) (ha : CJ X wx JA (RA X.K) ms) (R : Rel X.K s0 s st w fp)
    (hp : Post X wx (RE X.K st) s0 st w fp (lmM f m ms s) Q) : W X o st w.H fun x H1 => tyV X.K "list" x H1 ∧ JA st H1 fun xs H2 => r x xs H2 Q := by
  refine ho.go R (Stp.refl R.ok) hp fun o s1 v w1 f1 fp1 R1 r1 n1 S1 hp1 => ?_
  cases o with
  | val d k => exact hp1.elim
  | slot i =>
    obtain ⟨d, iv, hp2⟩ := flat_go hp1 R1 r1
    split at hp2
    · rename_i ds0
      obtain ⟨a, xs0, rfl, h0, t0⟩ := iv
      obtain ⟨hs1, rfl⟩ := r1
      refine ⟨.inl ⟨rfl, xs0, .inl (.inl h0)⟩, ?_⟩
      refine ha.go R1 S1 hp2 fun os s2 vs w2 f2 fp2 R2 r2 n2 S2 hp3 => ?_
      obtain ⟨es', s3, w3, fp3, R3, vx, S3, eH, eN, sub3, hp4⟩ := fzos_go hp3 R2 r2 n2
      split at hp4
      · rename_i ds p e
        split at hp4
        · rename_i ds' rd ef
          rw [← eH]
          obtain ⟨⟨xs, h2, h3⟩, _⟩ := rel_lst (ds' := []) (xs' := []) R3 e hs1 rfl
          refine hf w3 a xs vs ds es' ds' rd Q R3.ok h2 h3 vx ef fun xs' rv t' vr => ?_
          obtain ⟨_, fp4, R4, sub4, S4, _⟩ := rel_lst (ds' := ds') (xs' := xs') R3 e hs1 t'
          exact hp4 rv (w3.put a (.lst xs')) [] fp4 R4 ⟨Vx.mono S4.fz _ _ vr, rfl⟩ R4.nd ((((S1.trans S2).trans S3).trans S4).sub sub4)
        · exact hp4.elim
      · exact hp4.elim
    · exact hp2.elim
theorem mt_extR : MtR X "list.extend" rExtend := mt_extend
theorem ce_extend {o e : Expr} {m : M Op} {ms : M (List Op)} {apos cpos : Pos} (ho : CE X wx o m) (ha : CA X wx [e] ms) (hbase : attributeBase o "extend" X.env (eval o X.env) = eval o X.env := by rfl)
    (hfew : ((backTo cpos (starEach [e] X.env)).all (fun x => !x.1) && (backToKw cpos (keywordEach [] X.env)).all (fun x => x.1.isSome)
      && decide (([e] : List Expr).length + ([] : List Keyword).length + (if ([] : List Keyword).isEmpty then 0 else 1) < 30)) = true := by rfl)
    (hline : (apos.endLine == cpos.line) = true := by rfl) (hs : starEach [e] X.env = (false, eval e X.env) :: starEach [] X.env := by rfl) : CE X wx (.Call (.Attribute o "extend" apos) [e] [] cpos) (lmM extF m ms) :=
  ⟨fun s0 s st w fp Q R hp => ⟨_, pe_bm (T := "list") F.plainAttrs_list F.slot_list_extend F.type_list_extend mt_extR pe_W pa_W hbase hfew hline hs rfl, lmw_read lmw_ext ho ha R hp⟩⟩
/-- x += e, lists -/
def augM (i : Nat) (m : M Op) : M Flow := bnd (vr i) fun _ => bnd m fun o => bnd (fzo o) fun d => fun s => match s.r[i]? with
  | some (some ⟨.lst ds, 1, p⟩) => match d with
    | .lst es => if ds.length + es.length ≤ cap then .ok .nx { s with r := s.r.set i (some ⟨.lst (ds ++ es), 1, p⟩) } else .no
    | _ => .no
  | _ => .no
theorem cs_augL {i : Nat} {x : Str} {e : Expr} {m : M Op} {pos pos' : Pos} (hN : X.N.Nodup) (hi : X.N[i]? = some x) (hx : Loc X.env.scope x) (he : CE X wx e m) (hf : X.fn x = true ∨ X.env.scope.names.lookup x = some .local := by first | exact .inl rfl | exact .inr rfl | assumption) :
    CS X wx (.AugAssign (.Name x pos') .Add e pos) (augM i m) := by
  refine ⟨fun s0 s st w fp E R hp => ⟨_, ps_aug hN hi hx pe_W iop_ext hf, ?_⟩⟩
  unfold augM at hp
  unfold bnd vr at hp
  cases hs : s.r[i]? with
  | none =>
    rw [hs] at hp
    exact hp.elim
  | some o =>
    rw [hs] at hp
    cases o with
    | none => exact hp.elim
    | some sl =>
      dsimp only at hp
      obtain ⟨fe, fs, ef, q1, q2⟩ := R.parts
      obtain ⟨b, f1, f, f2, hb, hf', hpp, hset⟩ := q1.at hs
      cases b with
      | none => exact hpp.elim
      | some v =>
        refine ⟨v, hb, ?_⟩
        refine he.goS R hp fun o1 s1 y w1 g1 fp1 R1 r1 n1 S1 hp1 => ?_
        obtain ⟨d, s2, w2, fp2, R2, vx, S2, eH, hp2⟩ := fzoS_go hp1 R1 r1 n1
        rw [← eH]
        split at hp2
        · rename_i ds p es
          split at hp2
          · rename_i es' 
            split at hp2
            · rename_i hl
              obtain ⟨fr, owr⟩ := slot_val R2 es hb
              obtain ⟨a, zs, g', e1, h1, hn1, e2, t⟩ := (show Ow X.K w2 1 (.lst ds) v fr from owr)
              subst e1
              obtain ⟨b', zs', rfl, hb', tb⟩ := vx
              obtain ⟨⟨xs, h2, h3⟩, _⟩ := rel_lst (ds' := []) (xs' := []) R2 es hb rfl
              obtain ⟨_, fp4, R4, sub4, S4, _⟩ := rel_lst (ds' := ds ++ es') (xs' := xs ++ zs') R2 es hb (VxL.append h3 tb)
              refine ⟨a, b', xs, zs', rfl, rfl, h2, R2.ok _ _ hb', ?_, ?_⟩
              · rw [h3.length, tb.length]
                exact cap_line hl
              · have est : st.set i (some (.ref a)) = st := by
                  apply List.ext_getElem?
                  intro j
                  by_cases hj : j = i
                  · subst hj
                    rw [List.getElem?_set_self (List.getElem?_eq_some_iff.mp hb).1, hb]
                  · rw [List.getElem?_set_ne (Ne.symm hj)]
                show E.nx (st.set i (some (.ref a))) _
                rw [est]
                exact hp2 st _ fp4 R4 (((S1.trans S2).trans S4).sub sub4)
            · exact hp2.elim
          · exact hp2.elim
        · exact hp2.elim
end
end Mi

set_option Elab.async false
set_option linter.all false
set_option maxRecDepth 100000
set_option maxHeartbeats 4000000
namespace Mi
open PySem L2 PySem.Spec PyProof.Rows

/-! ### rows of ints and texts, in order -/
def cdK : Key → List Int
  | .inl i => [0, i]
  | .inr x => 1 :: x.cps.toList.map Int.ofNat
def cdR (r : List Key) : List (List Int) := r.map cdK
def kind (k : Key) : Bool := match k with
  | .inl _ => false
  | .inr _ => true
def sig (r : List Key) : List Bool := r.map kind
theorem ltI_irr (a : List Int) : ¬ a < a := List.lt_irrefl a
instance : Std.Irrefl (α := List Int) (· < ·) := ⟨ltI_irr⟩
instance : Std.Asymm (α := List Int) (· < ·) := ⟨fun a b h h2 => ltI_irr a (List.lt_trans h h2)⟩
instance : Trans (α := List Int) (· < ·) (· < ·) (· < ·) := ⟨fun h h2 => List.lt_trans h h2⟩
instance : Std.Trichotomous (α := List Int) (· < ·) := ⟨fun a b h1 h2 => List.le_antisymm (List.not_lt.mp h2) (List.not_lt.mp h1)⟩
def leR (a b : List Key) : Bool := !decide (cdR b < cdR a)
theorem ltR_irr (a : List (List Int)) : ¬ a < a := List.lt_irrefl a
theorem ltR_tr {a b c : List (List Int)} (h : a < b) (h2 : b < c) : a < c := List.lt_trans h h2
theorem ltR_anti {a b : List (List Int)} (h : ¬ a < b) (h2 : ¬ b < a) : a = b := List.le_antisymm (List.not_lt.mp h2) (List.not_lt.mp h)
theorem ltR_tot (a b : List (List Int)) : ¬ a < b ∨ ¬ b < a := by
  by_cases h : a < b
  · exact .inr fun h2 => ltR_irr a (ltR_tr h h2)
  · exact .inl h
theorem leR_tr {a b c : List (List Int)} (h : ¬ b < a) (h2 : ¬ c < b) : ¬ c < a := fun h3 => by
  by_cases h4 : a < b
  · exact h2 (ltR_tr h3 h4)
  · have e := ltR_anti h4 h
    rw [e] at h3
    exact h2 h3
theorem cdK_inj {a b : Key} (h : cdK a = cdK b) : a = b := by
  cases a with
  | inl i => cases b with
    | inl j =>
      have h' : [0, i] = [0, j] := h
      simp at h'
      rw [h']
    | inr y =>
      have h' : (0 : Int) :: [i] = 1 :: y.cps.toList.map Int.ofNat := h
      injection h' with h1 h2
      cases h1
  | inr x => cases b with
    | inl j =>
      have h' : (1 : Int) :: (x.cps.toList.map Int.ofNat) = 0 :: [j] := h
      injection h' with h1 h2
      cases h1
    | inr y =>
      have h' : (1 : Int) :: (x.cps.toList.map Int.ofNat) = 1 :: y.cps.toList.map Int.ofNat := h
      injection h' with h1 h2
      have h3 : x.cps.toList = y.cps.toList := List.map_inj_right (fun a b e => Int.ofNat.inj e) |>.mp h2
      rw [← str_mk x, ← str_mk y, h3]
theorem cdR_inj {a b : List Key} (h : cdR a = cdR b) : a = b := List.map_inj_right (fun _ _ e => cdK_inj e) |>.mp h
theorem lt_casts : ∀ (a b : List Nat), ((a.map Int.ofNat) < b.map Int.ofNat) ↔ a < b
  | _, [] => by simp
  | [], _ :: _ => by simp
  | a :: as, b :: bs => by
    rw [List.map_cons, List.map_cons, List.cons_lt_cons_iff, List.cons_lt_cons_iff, lt_casts as bs]
    simp only [Int.ofNat_eq_natCast, Int.ofNat_lt, Int.natCast_inj]
theorem cdK_str {x y : Str} : cdK (.inr x) < cdK (.inr y) ↔ x.cps.toList < y.cps.toList := by
  show (1 :: x.cps.toList.map Int.ofNat) < (1 :: y.cps.toList.map Int.ofNat) ↔ _
  rw [List.cons_lt_cons_iff, lt_casts]
  simp
theorem cdK_int {i j : Int} : cdK (.inl i) < cdK (.inl j) ↔ i < j := by
  show ([0, i] : List Int) < [0, j] ↔ _
  rw [List.cons_lt_cons_iff, List.cons_lt_cons_iff]
  simp
def sortR (rs : List (List Key)) : List (List Key) := rs.mergeSort leR
theorem leR_t (a b c : List Key) : leR a b = true → leR b c = true → leR a c = true := by
  unfold leR
  simp only [Bool.not_eq_true', decide_eq_false_iff_not]
  exact leR_tr
theorem leR_total (a b : List Key) : (leR a b || leR b a) = true := by
  unfold leR
  simp only [Bool.or_eq_true, Bool.not_eq_true', decide_eq_false_iff_not]
  exact ltR_tot _ _
theorem leR_anti (a b : List Key) : leR a b = true → leR b a = true → a = b := by
  unfold leR
  simp only [Bool.not_eq_true', decide_eq_false_iff_not]
  intro h1 h2
  exact cdR_inj (ltR_anti h2 h1)
theorem sortR_uniq {xs ys : List (List Key)} (h : ys.Perm xs) (s : ys.Pairwise fun a b => leR a b = true) : ys = sortR xs :=
  perm_uniq (le := fun a b => leR a b = true) (fun a b => leR_anti a b) (h.trans (List.mergeSort_perm xs leR).symm) s (List.pairwise_mergeSort leR_t leR_total xs)

/-! in the heap -/
section
variable {prog : Program} {w : World} {A : Around} {E : Value → Shared → Prop} {s : Shared}
/-- the row at v -/
def IsRow (h : Heap) (v : Value) (r : List Key) : Prop := ∃ a o us n, v = .ref a ∧ h.get? a = some o ∧ o.cls = .type "tuple" ∧ o.data = .seq us n ∧ Vals (r.map kV) us.toList
theorem IsRow.keeps {h h' : Heap} {v : Value} {r : List Key} (p : IsRow h v r) (k : ∀ b o, h.get? b = some o → o.cls = .type "tuple" → h'.get? b = some o) : IsRow h' v r := by
  obtain ⟨a, o, us, n, e, ho, hc, hd, q⟩ := p
  exact ⟨a, o, us, n, e, k _ _ ho hc, hc, hd, q⟩
theorem swo_rows (k : Value → List Key) : SrtO.Swo fun v u => decide (cdR (k v) < cdR (k u)) := by
  refine ⟨fun x y h => ?_, fun x y z h1 h2 => ?_⟩
  · simp only [decide_eq_true_eq, decide_eq_false_iff_not] at h ⊢
    exact fun h2 => ltR_irr _ (ltR_tr h h2)
  · simp only [decide_eq_false_iff_not] at h1 h2 ⊢
    exact leR_tr h1 h2
theorem kat_rows : ∀ (ra rb : List Key) (ua ub : List Value) (i : Nat) (R : Bool), Vals (ra.map kV) ua → Vals (rb.map kV) ub → sig ra = sig rb → R = decide (cdR ra < cdR rb) → 
    PySem.W.KatLex prog w A true false (fun r s' => s' = s ∧ r = R) (ua.zip ub) i s
  | [], rb, ua, ub, i, R, h1, h2, hs, hR => by
    have e : rb = [] := by
      cases rb with
      | nil => rfl
      | cons _ _ => cases hs
    subst e
    have e1 : ua = [] := List.length_eq_zero_iff.mp h1.length.symm
    subst e1
    refine PySem.W.kat_nil ⟨rfl, ?_⟩
    rw [hR]
    exact (decide_eq_false (ltR_irr _)).symm
  | a :: ra, [], ua, ub, i, R, h1, h2, hs, hR => by cases hs
  | a :: ra, b :: rb, ua, ub, i, R, h1, h2, hs, hR => by
    have h1' : Vals (kV a :: ra.map kV) ua := h1
    have h2' : Vals (kV b :: rb.map kV) ub := h2
    cases h1' with
    | cons ha ta =>
      cases h2' with
      | cons hb tb =>
        rename_i u us v vs
        have hs1 : kind a = kind b ∧ sig ra = sig rb := by
          have : kind a :: sig ra = kind b :: sig rb := hs
          simpa using this
        have cons : ∀ (h : a = b → PySem.W.KatLex prog w A true false (fun r s' => s' = s ∧ r = R) (us.zip vs) (i + 1) s), a = b ∨ a ≠ b := fun _ => Decidable.em _
        have hRe : a = b → R = decide (cdR ra < cdR rb) := fun e => by
          rw [hR]
          congr 1
          show (cdK a :: cdR ra < cdK b :: cdR rb) = _
          rw [List.cons_lt_cons_iff, e]
          exact propext ⟨fun h => h.elim (fun h => absurd h (ltI_irr _)) (·.2), fun h => .inr ⟨rfl, h⟩⟩
        have hRn : a ≠ b → R = decide (cdK a < cdK b) := fun e => by
          rw [hR]
          congr 1
          show (cdK a :: cdR ra < cdK b :: cdR rb) = _
          rw [List.cons_lt_cons_iff]
          exact propext ⟨fun h => h.elim id fun h => absurd (cdK_inj h.1) e, fun h => .inl h⟩
        cases a with
        | inl x =>
          cases b with
          | inr _ => cases hs1.1
          | inl y =>
            obtain ⟨t, rfl⟩ := ha
            obtain ⟨t', rfl⟩ := hb
            refine PySem.W.kat_cons (SeqAt.EqAt.int_int x t y t' prog w _ _ ?_)
            refine PySem.W.kat_go (fun e1 => ?_) (fun e1 => ?_)
            · have ex : x = y := by simpa using e1
              exact PySem.W.kat_yes (kat_rows ra rb us vs (i + 1) R ta tb hs1.2 (hRe (by rw [ex])))
            · have ex : ¬ x = y := by simpa using e1
              have e3 : R = decide (x < y) := by
                rw [hRn (fun z => ex (Sum.inl.inj z))]
                congr 1
                exact propext cdK_int
              refine PySem.W.kat_no ?_
              by_cases hi : i = 0
              · subst hi
                exact oneLt_int ⟨rfl, e3.symm⟩
              · rw [show (true && i == 0) = false by simp [hi]]
                exact PySem.W.kat_one _ _ (PyProof.Rows.lt_int (show s = s ∧ decide (x < y) = R from ⟨rfl, e3.symm⟩))
        | inr x =>
          cases b with
          | inl _ => cases hs1.1
          | inr y =>
            obtain ⟨t, rfl⟩ := ha
            obtain ⟨t', rfl⟩ := hb
            refine PySem.W.kat_cons (SeqAt.EqAt.str_str x t y t' prog w _ _ ?_)
            refine PySem.W.kat_go (fun e1 => ?_) (fun e1 => ?_)
            · have ex : x = y := by simpa using e1
              exact PySem.W.kat_yes (kat_rows ra rb us vs (i + 1) R ta tb hs1.2 (hRe (by rw [ex])))
            · have ex : ¬ x = y := by simpa using e1
              have e3 : R = decide (x.cps.toList < y.cps.toList) := by
                rw [hRn (fun z => ex (Sum.inr.inj z))]
                congr 1
                exact propext cdK_str
              refine PySem.W.kat_no ?_
              by_cases hi : i = 0
              · subst hi
                exact oneLt_str ⟨rfl, e3.symm⟩
              · rw [show (true && i == 0) = false by simp [hi]]
                exact PySem.W.kat_one _ _ (PyProof.Rows.lt_str (show s = s ∧ decide (x.cps.toList < y.cps.toList) = R from ⟨rfl, e3.symm⟩))
theorem row_cmp {vs : List Value} {k : Value → List Key} {sg : List Bool} (hp : ∀ v ∈ vs, IsRow s.heap v (k v) ∧ sig (k v) = sg) : SrtO.Cmp prog w A s (tuples' true) (fun p => p.1 ∈ vs) (SrtO.lt2 fun v u => decide (cdR (k v) < cdR (k u))) := by
  intro p q hm hm'
  obtain ⟨⟨a, o, us, n, e, ho, hc, hd, h1⟩, s1⟩ := hp _ hm
  obtain ⟨⟨a', o', us', n', e', ho', hc', hd', h2⟩, s2⟩ := hp _ hm'
  show wpAny (model prog w) A (keyLt' (tuples' true) p.1 q.1) (fun r s' => s' = s ∧ r = decide (cdR (k p.1) < cdR (k q.1))) (fun _ _ => False) s
  generalize k p.1 = ra at *
  generalize k q.1 = rb at *
  rw [e, e']
  refine PySem.W.kat_lt ho hd ho' hd' ?_
  have hl : us.size = us'.size := by
    have e1 := h1.length
    have e2 := h2.length
    rw [List.length_map] at e1 e2
    have e3 : ra.length = rb.length := by
      have := congrArg List.length (s1.trans s2.symm)
      unfold sig at this
      rw [List.length_map, List.length_map] at this
      exact this
    rw [← Array.length_toList, ← Array.length_toList]
    omega
  rw [show decide (us.size < us'.size) = false by rw [hl]; simp]
  exact kat_rows _ _ _ _ 0 _ h1 h2 (s1.trans s2.symm) rfl
theorem row_firsts {h : Heap} {b : Bool} {sg : List Bool} : ∀ {vs : List Value} {k : Value → List Key}, (∀ v ∈ vs, IsRow h v (k v) ∧ sig (k v) = b :: sg) → ∃ fs : List Value, PySem.W.KatTups h vs fs ∧ fs.length = vs.length ∧ ∀ f ∈ fs, (b = false → ∃ x t, f = Value.int x t) ∧ (b = true → ∃ x t, f = Value.str x t)
  | [], _, _ => ⟨[], PySem.W.KatTups.nil, rfl, fun _ hm => by simp at hm⟩
  | v :: vs, k, hp => by
    obtain ⟨fs, h1, h2, h3⟩ := row_firsts (vs := vs) fun v' hm => hp v' (List.mem_cons_of_mem _ hm)
    obtain ⟨⟨a, o, us, n, e, ho, hc, hd, hv⟩, hs⟩ := hp v (List.mem_cons_self ..)
    subst e
    generalize k (.ref a) = r at hv hs
    cases r with
    | nil => cases hs
    | cons x r =>
      have hs' : kind x :: sig r = b :: sg := hs
      injection hs' with hb _
      have hv' : Vals (kV x :: r.map kV) us.toList := hv
      generalize hu : us.toList = ul at hv'
      match ul, hu, hv' with
      | u :: ul', hu, .cons hx _ =>
        have h0 : us[0]? = some u := by rw [← Array.getElem?_toList, hu] <;> rfl
        refine ⟨u :: fs, PySem.W.KatTups.cons ho hc hd h0 h1, by rw [List.length_cons, List.length_cons, h2], fun f hm => ?_⟩
        rcases List.mem_cons.mp hm with rfl | hm
        · cases x with
          | inl i =>
            obtain ⟨t, e⟩ := hx
            refine ⟨fun _ => ⟨_, t, e⟩, fun z => ?_⟩
            rw [z] at hb
            cases hb
          | inr i =>
            obtain ⟨t, e⟩ := hx
            refine ⟨fun z => ?_, fun _ => ⟨_, t, e⟩⟩
            rw [z] at hb
            cases hb
        · exact h3 f hm
theorem rows_sortable {a : Addr} {vs : List Value} {k : Value → List Key} {b : Bool} {sg : List Bool} (h0 : 0 < vs.length) (hp : ∀ v ∈ vs, IsRow s.heap v (k v) ∧ sig (k v) = b :: sg) (ha : ∀ o, s.heap.get? a = some o → o.cls ≠ .type "tuple") : SrtO.SortableO prog w A s a vs fun v u => decide (cdR (k v) < cdR (k u)) := by
  intro h' keep
  have hp' : ∀ v ∈ vs, IsRow h' v (k v) ∧ sig (k v) = b :: sg := fun v hm => ⟨(hp v hm).1.keeps fun b o e c => keep b o (fun z => by subst z; exact ha o e c) e, (hp v hm).2⟩
  obtain ⟨fs, h1, h2, h3⟩ := row_firsts hp'
  refine ⟨tuples' true, fun Q E hq => ?_, row_cmp hp'⟩
  cases b with
  | false =>
    refine PySem.W.kat_kind (T := .type "int") h1 (by omega) (fun f hm => ?_) (by rfl) ?_
    · obtain ⟨x, t, rfl⟩ := (h3 f hm).1 rfl
      exact PySem.W.Looks.now
    · have e : (Value.type "int" != Value.type "tuple") = true := by first | decide +kernel | rfl | decide
      rw [e]
      exact hq
  | true =>
    refine PySem.W.kat_kind (T := .type "str") h1 (by omega) (fun f hm => ?_) (by rfl) ?_
    · obtain ⟨x, t, rfl⟩ := (h3 f hm).2 rfl
      exact PySem.W.Looks.now
    · have e : (Value.type "str" != Value.type "tuple") = true := by first | decide +kernel | rfl | decide
      rw [e]
      exact hq
end
/-- sorted(xs), xs a list of rows -/
def rSortR (K : PySem.W.Frag) : List V → Hp → VK → Prop := fun vs H Q => ∃ (a : Addr) (xs : List V) (k : V → List Key) (b : Bool) (sg : List Bool), vs = [V.ref a] ∧ SqL K H a xs ∧ (∀ x ∈ xs, ∃ t, x = V.ref t ∧ H t = some (.tup ((k x).map kV)) ∧ sig (k x) = b :: sg) ∧
  ∀ ys p, SrtO.Srtd (fun v u => decide (cdR (k v) < cdR (k u))) ys → ys.Perm xs → H p = none → Q (.ref p) (upd H p (.lst ys))
section
variable {X : Cx} {wx : WX}
theorem cr_sortR : CallR X (.builtin "sorted") (rSortR X.K) := by
  intro pins s σ H vs us Q I r h
  obtain ⟨a, xs, k, b, sg, rfl, hs, hx, q⟩ := h
  obtain ⟨its, rv, hl, hz⟩ := I.list hs
  obtain ⟨u, rfl, ru⟩ := vals1 r
  obtain rfl : u = Value.ref a := ru
  obtain ⟨e1, e2⟩ := refs_back rv fun x m => by
    obtain ⟨t, e, _⟩ := hx x m
    exact ⟨t, e⟩
  have hrow : ∀ v ∈ its, IsRow s.heap v (k (backV v)) ∧ sig (k (backV v)) = b :: sg := fun v hv => by
    obtain ⟨t, rfl⟩ := e2 v hv
    have hm : V.ref t ∈ xs := by rw [e1]; exact List.mem_map.mpr ⟨_, hv, rfl⟩
    obtain ⟨t', e, ht, hsg⟩ := hx _ hm
    cases e
    obtain ⟨_, its2, r2, o, ho, hc, n, hd⟩ := I.hok _ _ ht
    exact ⟨⟨t, o, its2.toArray, n, rfl, ho, hc, hd, r2⟩, hsg⟩
  refine SrtO.sorted_ord (swo_rows fun u => k (backV u)) hl.isList (by rw [← rv.length]; exact hz) (fun h2 h₁ a ha kk => ?_) fun out hs hb => ?_
  · refine rows_sortable (s := { s with heap := h₁ }) (by omega) (fun v hm => ⟨(hrow v hm).1.keeps fun b o e _ => (kk b o e).2, (hrow v hm).2⟩) fun o e => ?_
    have e' : some o = some (seqObj "list" its.toArray 0) := e.symm.trans ha
    cases e'
    intro c
    exact absurd (Value.type.inj c) (by decide)
  · have h3 : ∀ u ∈ out, ∃ a, u = Value.ref a := fun u hu => e2 u (hb.perm.mem_iff.mp hu)
    obtain ⟨n, hn⟩ := sortedAll_at s.heap its out.toArray
    have hd : s.heap.objs.size ≤ s.heap.objs.size + 1 := Nat.le_succ _
    have hbp : (out.map backV).Perm xs := by
      rw [e1]
      exact hb.perm.map backV
    refine ⟨.ref (s.heap.objs.size + 1), upd H (s.heap.objs.size + 1) (.lst (out.map backV)), I.laid (t' := s.toks) (fun b o e => sortedAll_old e) hd ⟨?_, out, n, vals_back h3, hn⟩, rfl, q _ _ (SrtO.srtd_map (lt := fun v u => decide (cdR (k v) < cdR (k u))) hs) hbp (I.hok.fresh hd)⟩
    rw [hbp.length_eq]
    exact hz
end
end Mi

set_option Elab.async false
set_option linter.all false
set_option maxRecDepth 100000
set_option maxHeartbeats 4000000
namespace Mi
open PySem L2 PySem.Spec PyProof.Rows

def keysOfD : List D → Option (List Key)
  | [] => some []
  | .int i :: r => (keysOfD r).map (.inl i :: ·)
  | .str x :: r => (keysOfD r).map (.inr x :: ·)
  | _ => none
def rowsOf : List D → Option (List (List Key))
  | [] => some []
  | .tup ds :: r => (keysOfD ds).bind fun k => (rowsOf r).map (k :: ·)
  | _ => none
def sigOk : List (List Key) → Bool
  | [] => false
  | r :: rs => !r.isEmpty && rs.all fun q => sig q == sig r
def rowD (r : List Key) : D := .tup (r.map keyD)
def sortRF (ds : List D) : Option (D × Nat) := match ds with
  | [.lst ds] => (rowsOf ds).bind fun rs => if sigOk rs then some (.lst ((sortR rs).map rowD), 1) else none
  | _ => none
def sortG (ds : List D) : Option (D × Nat) := match sortF ds with
  | some r => some r
  | none => sortRF ds
theorem keysOfD_ok : ∀ {ds : List D} {ks : List Key}, keysOfD ds = some ks → ds = ks.map keyD
  | [], ks, e => by
    cases e
    rfl
  | .int i :: r, ks, e => by
    obtain ⟨q, h, rfl⟩ := Option.map_eq_some_iff.mp (show (keysOfD r).map (.inl i :: ·) = some ks from e)
    rw [keysOfD_ok h] <;> rfl
  | .str i :: r, ks, e => by
    obtain ⟨q, h, rfl⟩ := Option.map_eq_some_iff.mp (show (keysOfD r).map (.inr i :: ·) = some ks from e)
    rw [keysOfD_ok h] <;> rfl
  | .non :: _, _, e => by cases e
  | .bl _ :: _, _, e => by cases e
  | .tup _ :: _, _, e => by cases e
  | .lst _ :: _, _, e => by cases e
  | .dct _ :: _, _, e => by cases e
  | .dcT _ :: _, _, e => by cases e
  | .set _ :: _, _, e => by cases e
  | .obj _ :: _, _, e => by cases e
  | .glb _ :: _, _, e => by cases e
  | .exc _ _ :: _, _, e => by cases e
  | .ty _ :: _, _, e => by cases e
  | .scr _ :: _, _, e => by cases e
theorem rowsOf_ok : ∀ {ds : List D} {rs : List (List Key)}, rowsOf ds = some rs → ds = rs.map rowD
  | [], rs, e => by
    cases e
    rfl
  | .tup ds :: r, rs, e => by
    obtain ⟨k, h1, h2⟩ := Option.bind_eq_some_iff.mp (show (keysOfD ds).bind (fun k => (rowsOf r).map (k :: ·)) = some rs from e)
    obtain ⟨q, h3, rfl⟩ := Option.map_eq_some_iff.mp h2
    rw [rowsOf_ok h3, keysOfD_ok h1] <;> rfl
  | .non :: _, _, e => by cases e
  | .bl _ :: _, _, e => by cases e
  | .int _ :: _, _, e => by cases e
  | .str _ :: _, _, e => by cases e
  | .lst _ :: _, _, e => by cases e
  | .dct _ :: _, _, e => by cases e
  | .dcT _ :: _, _, e => by cases e
  | .set _ :: _, _, e => by cases e
  | .obj _ :: _, _, e => by cases e
  | .glb _ :: _, _, e => by cases e
  | .exc _ _ :: _, _, e => by cases e
  | .ty _ :: _, _, e => by cases e
  | .scr _ :: _, _, e => by cases e
theorem keys_vx {r : Rp} : ∀ {ks : List Key} {xs : List V}, VxL r (ks.map keyD) xs → xs = ks.map kV
  | [], xs, h => h
  | .inl i :: ks, xs, ⟨v, t, e, h, g⟩ => by
    rw [e, keys_vx g, show v = .int i from h] <;> rfl
  | .inr i :: ks, xs, ⟨v, t, e, h, g⟩ => by
    rw [e, keys_vx g, show v = .str i from h] <;> rfl
theorem kvx {r : Rp} : ∀ (ks : List Key), VxL r (ks.map keyD) (ks.map kV)
  | [] => rfl
  | .inl i :: ks => ⟨_, _, rfl, rfl, kvx ks⟩
  | .inr i :: ks => ⟨_, _, rfl, rfl, kvx ks⟩
def bk (v : V) : Key := match v with
  | .int i => .inl i
  | .str x => .inr x
  | _ => .inl 0
theorem bk_k : ∀ (ks : List Key), (ks.map kV).map bk = ks
  | [] => rfl
  | .inl i :: ks => by
    show Sum.inl i :: ((ks.map kV).map bk) = _
    rw [bk_k ks]
  | .inr i :: ks => by
    show Sum.inr i :: ((ks.map kV).map bk) = _
    rw [bk_k ks]
/-- the row that a reference stands for -/
def rowAt (H : Hp) (v : V) : List Key := match v with
  | .ref t => match H t with
    | some (.tup xs) => xs.map bk
    | _ => []
  | _ => []
section
variable {X : Cx} {wx : WX} {w : Wd}
theorem rows_vx (ok : w.Ok) : ∀ {rs : List (List Key)} {xs : List V}, VxL (w.fz X.K) (rs.map rowD) xs → xs.map (rowAt w.H) = rs ∧ ∀ x ∈ xs, ∃ t, x = .ref t ∧ w.F t = some (.tup ((rowAt w.H x).map kV))
  | [], xs, h => by
    rw [show xs = [] from h]
    exact ⟨rfl, fun x m => nomatch m⟩
  | r :: rs, xs, ⟨v, t, e, h, g⟩ => by
    obtain ⟨h1, h2⟩ := rows_vx ok g
    obtain ⟨a, ys, rfl, hq, ht⟩ := h
    have ey := keys_vx ht
    have er : rowAt w.H (.ref a) = r := by
      unfold rowAt
      dsimp only
      rw [show w.H a = some (.tup ys) from ok _ _ hq, ey]
      exact bk_k r
    subst e
    refine ⟨by rw [List.map_cons, er, h1], fun x m => ?_⟩
    rcases List.mem_cons.mp m with rfl | m
    · refine ⟨a, rfl, ?_⟩
      rw [er, ← ey]
      exact hq
    · exact h2 x m
theorem rows_back : ∀ {xs : List V}, (∀ x ∈ xs, ∃ t, x = .ref t ∧ w.F t = some (.tup ((rowAt w.H x).map kV))) → VxL (w.fz X.K) ((xs.map (rowAt w.H)).map rowD) xs
  | [], _ => rfl
  | x :: xs, h => by
    obtain ⟨t, e, hF⟩ := h x (List.mem_cons_self ..)
    exact ⟨x, xs, rfl, ⟨t, _, e, hF, kvx _⟩, rows_back fun y m => h y (List.mem_cons_of_mem _ m)⟩
theorem sig_all {r : List Key} {rs : List (List Key)} (h : sigOk (r :: rs) = true) : ∃ b sg, ∀ q ∈ r :: rs, sig q = b :: sg := by
  unfold sigOk at h
  obtain ⟨h1, h2⟩ := Bool.and_eq_true_iff.mp h
  cases r with
  | nil => cases h1
  | cons k r =>
    refine ⟨kind k, sig r, fun q hq => ?_⟩
    rcases List.mem_cons.mp hq with rfl | hq
    · rfl
    · exact eq_of_beq (List.all_eq_true.mp h2 q hq)
theorem blt_sortR : Blt X (rSortR X.K) sortRF := by
  intro w ds vs o k Q ok iv ef hr
  unfold sortRF at ef
  split at ef
  · obtain ⟨rs, h1, h2⟩ := Option.bind_eq_some_iff.mp ef
    split at h2
    · rename_i hs
      cases h2
      obtain ⟨v, rfl, a, xs, rfl, ha, t⟩ := itvs1 iv
      rw [rowsOf_ok h1] at t
      obtain ⟨e1, e2⟩ := rows_vx (X := X) ok t
      cases rs with
      | nil => cases hs
      | cons r0 rs =>
        obtain ⟨b, sg, hsg⟩ := sig_all hs
        refine ⟨a, xs, rowAt w.H, b, sg, rfl, .inl (.inl ha), fun x m => ?_, fun ys p hy hp hn => ?_⟩
        · obtain ⟨t, e, hF⟩ := e2 x m
          exact ⟨t, e, ok _ _ hF, hsg _ (by rw [← e1]; exact List.mem_map.mpr ⟨x, m, rfl⟩)⟩
        · have e3 : ys.map (rowAt w.H) = sortR (r0 :: rs) := by
            rw [← e1]
            refine sortR_uniq (hp.map _) ?_
            refine List.pairwise_map.mpr (List.Pairwise.imp (fun {u v} q => ?_) hy)
            have q' : decide (cdR (rowAt w.H v) < cdR (rowAt w.H u)) = false := q
            unfold leR
            rw [q']
            rfl
          rw [← e3] at hr
          exact hr.lst ok (rows_back fun x m => e2 x (hp.mem_iff.mp m)) hn
    · cases h2
  · cases ef
theorem Blt.or {r1 r2 : List V → Hp → VK → Prop} {f1 f2 : List D → Option (D × Nat)} (h1 : Blt X r1 f1) (h2 : Blt X r2 f2) : Blt X (fun xs H Q => r1 xs H Q ∨ r2 xs H Q) (fun ds => match f1 ds with
    | some r => some r
    | none => f2 ds) := by
  intro w ds vs o k Q ok iv ef hr
  dsimp only at ef
  split at ef
  · rename_i q e
    cases ef
    exact .inl (h1 w ds vs o k Q ok iv e hr)
  · exact .inr (h2 w ds vs o k Q ok iv ef hr)
/-! ### min and max of texts -/
theorem strs_gt {prog : Program} {w : World} {A : Around} {P : Nat → Value → Prop} (val : Nat → Str) (hval : ∀ i v, P i v → ∃ t, v = .str (val i) t) :
    CmpOf prog w A .Gt P (fun i j => decide ((val j).cps.toList < (val i).cps.toList)) := fun i j vi vj s Q E hi hj h => by
  obtain ⟨t, rfl⟩ := hval i vi hi
  obtain ⟨u, rfl⟩ := hval j vj hj
  exact richCompare_gives (op := .Gt) (typeIs_str s _ t) (typeIs_str s _ u) F.slot_str_gt F.entry_str_gt (F.args_str_gt_2 _ _) (gives_str_gt _ _ t u) (fun x => nomatch x) h
theorem most_str (val : Nat → Str) : ∀ k, argBest (fun i j => decide ((val j).cps.toList < (val i).cps.toList)) k ≤ k ∧ ∀ j, j ≤ k → ¬ (val (argBest (fun i j => decide ((val j).cps.toList < (val i).cps.toList)) k)).cps.toList < (val j).cps.toList
  | 0 => ⟨Nat.le_refl _, fun j hj => by
    have : j = 0 := by omega
    subst this
    exact List.lt_irrefl _⟩
  | k + 1 => by
    obtain ⟨h1, h2⟩ := most_str val k
    simp only [argBest]
    by_cases hc : (val (argBest (fun i j => decide ((val j).cps.toList < (val i).cps.toList)) k)).cps.toList < (val (k + 1)).cps.toList
    · rw [if_pos (decide_eq_true hc)]
      refine ⟨Nat.le_refl _, fun j hj => ?_⟩
      by_cases hj2 : j = k + 1
      · rw [hj2]
        exact List.lt_irrefl _
      · intro hlt
        exact h2 j (by omega) (List.lt_trans hc hlt)
    · rw [if_neg (by simpa using hc)]
      refine ⟨Nat.le_succ_of_le h1, fun j hj => ?_⟩
      by_cases hj2 : j = k + 1
      · rw [hj2]
        exact hc
      · exact h2 j (by omega)
def maxS : List Str → Option Str
  | [] => none
  | [x] => some x
  | x :: xs => (maxS xs).map fun y => if x.cps.toList < y.cps.toList then y else x
theorem maxS_ok : ∀ {ss : List Str} {m : Str}, maxS ss = some m → m ∈ ss ∧ ∀ y ∈ ss, ¬ m.cps.toList < y.cps.toList
  | [], _, h => by cases h
  | [x], m, h => by
    cases h
    exact ⟨List.mem_cons_self .., fun y hy => by rw [List.mem_singleton.mp hy]; exact List.lt_irrefl _⟩
  | x :: z :: zs, m, h => by
    obtain ⟨n, h1, h2⟩ := Option.map_eq_some_iff.mp (show (maxS (z :: zs)).map _ = some m from h)
    obtain ⟨k1, k2⟩ := maxS_ok h1
    by_cases hc : x.cps.toList < n.cps.toList
    · rw [if_pos hc] at h2
      subst h2
      refine ⟨List.mem_cons_of_mem _ k1, fun y hy => ?_⟩
      rcases List.mem_cons.mp hy with rfl | hy
      · exact fun hlt => List.lt_irrefl _ (List.lt_trans hlt hc)
      · exact k2 y hy
    · rw [if_neg hc] at h2
      subst h2
      refine ⟨List.mem_cons_self .., fun y hy => ?_⟩
      rcases List.mem_cons.mp hy with rfl | hy
      · exact List.lt_irrefl _
      · intro hlt
        exact k2 y hy (by
        by_cases h4 : n.cps.toList < x.cps.toList
        · exact List.lt_trans h4 hlt
        · rw [List.le_antisymm (List.not_lt.mp h4) (List.not_lt.mp hc)] at hlt
          exact hlt)
theorem maxS_uniq {ss : List Str} {m n : Str} (h : maxS ss = some m) (hn : n ∈ ss) (hl : ∀ j ∈ ss, ¬ n.cps.toList < j.cps.toList) : n = m := by
  obtain ⟨k1, k2⟩ := maxS_ok h
  have h1 := k2 n hn
  have h2 := hl m k1
  have e : n.cps.toList = m.cps.toList := List.le_antisymm (List.not_lt.mp h1) (List.not_lt.mp h2)
  rw [← str_mk n, ← str_mk m, e]
/-- of two texts; of a tuple of texts -/
def rBestS (K : PySem.W.Frag) (bad : Str → Str → Prop) : List V → Hp → VK → Prop := fun vs H Q => ∃ ss : List Str, ((∃ a b, ss = [a, b] ∧ vs = [.str a, .str b]) ∨ ∃ p, vs = [.ref p] ∧ SqT K H p (ss.map V.str)) ∧ ss ≠ [] ∧ ∀ m, m ∈ ss → (∀ j ∈ ss, ¬ bad m j) → Q (.str m) H
theorem best_walk {ss : List Str} {items : Array Value} (hv : Vals (ss.map V.str) items.toList) : ∀ i v, items[i]? = some v → ∃ t, v = Value.str (ss.getD i ⟨#[]⟩) t := fun i v h => by
  have h' : items.toList[i]? = some v := by rw [Array.getElem?_toList]; exact h
  have hi : i < ss.length := by
    have h1 := (List.getElem?_eq_some_iff.mp h').1
    rw [← hv.length, List.length_map] at h1
    exact h1
  obtain ⟨u, h1, t, h2⟩ := hv.get (i := i) (x := V.str ss[i]) (by rw [List.getElem?_map, List.getElem?_eq_getElem hi] <;> rfl)
  rw [h'] at h1
  cases h1
  exact ⟨t, by rw [h2, List.getD_eq_getElem?_getD, List.getElem?_eq_getElem hi] <;> rfl⟩
theorem best_mem {ss : List Str} {k : Nat} (h : k ≤ ss.length - 1) (hne : ss ≠ []) : ss.getD k ⟨#[]⟩ ∈ ss := by
  have hl : 0 < ss.length := List.length_pos_iff.mpr hne
  rw [List.getD_eq_getElem?_getD, List.getElem?_eq_getElem (by omega)]
  exact List.getElem_mem _
theorem best_all {ss : List Str} {P : Str → Prop} (h : ∀ j, j ≤ ss.length - 1 → P (ss.getD j ⟨#[]⟩)) : ∀ y ∈ ss, P y := fun y hy => by
  obtain ⟨i, hi, e⟩ := List.mem_iff_getElem.mp hy
  have := h i (by omega)
  rw [List.getD_eq_getElem?_getD, List.getElem?_eq_getElem hi] at this
  rw [← e]
  exact this
theorem cr_minT (hc : X.calm = true) : CallR X (.builtin "min") (rBestS X.K fun m j => j.cps.toList < m.cps.toList) := by
  intro pins s σ H vs us Q I r h
  obtain ⟨ss, hh, hne, q⟩ := h
  have hl : 0 < ss.length := List.length_pos_iff.mpr hne
  have fin : ∀ (items : Array Value) (I0 : Addr) (s2 : Shared) (hs2 : ∀ b u, s.heap.get? b = some u → s2.heap.get? b = some u) (hlt : s.heap.objs.size ≤ I0) (v : Value) (h' : Heap) (tk : Nat), Vals (ss.map V.str) items.toList → items[argBest (fun i j => decide ((ss.getD i ⟨#[]⟩).cps.toList < (ss.getD j ⟨#[]⟩).cps.toList)) (items.size - 1)]? = some v →
      (∀ b o, b ∉ [I0] → s2.heap.get? b = some o → h'.get? b = some o) → EP X pins σ Q v { s with heap := h', toks := tk } := by
    intro items I0 s2 hs2 hlt v h' tk hv hP hk
    obtain ⟨t, rfl⟩ := best_walk hv _ v hP
    have hsz : items.size - 1 = ss.length - 1 := by
      have h1 := hv.length
      rw [List.length_map] at h1
      rw [← Array.length_toList, ← h1]
    rw [hsz] at hP ⊢
    obtain ⟨b1, b2⟩ := best_str (fun i => ss.getD i ⟨#[]⟩) (ss.length - 1)
    refine ⟨.str _, H, I.kept (t' := tk) fun b u e => hk b u (fun hmem => ?_) (hs2 b u e), ⟨t, rfl⟩, q _ (best_mem b1 hne) (best_all fun j hj => b2 j hj)⟩
    have e1 : b = I0 := List.mem_singleton.mp hmem
    have e2 := Heap.lt_size e
    rw [e1] at e2
    exact absurd e2 (Nat.not_lt.mpr hlt)
  rcases hh with ⟨a, b, rfl, rfl⟩ | ⟨p, rfl, hq⟩
  · obtain ⟨u, w', rfl, ⟨t, rfl⟩, ⟨t', rfl⟩⟩ := vals2 r
    have hT : (s.heap.push { cls := .type "tuple", data := .seq #[.str a t, .str b t'] }).IsTuple s.heap.objs.size #[.str a t, .str b t'] := ⟨_, Heap.get?_push_size _ rfl, rfl, 0, rfl⟩
    refine call_min_two (wpAny_pyIter_tuple hT ?_)
    have hsz : (s.heap.push { cls := .type "tuple", data := .seq #[.str a t, .str b t'] }).objs.size = s.heap.objs.size + 1 := Heap.size_push ..
    refine ⟨_, [_, s.heap.objs.size], [_], _, _, _, _, rfl, Walks.tuple (A := X.A.in1) (I.ok.hd hc) _ s.heap.objs.size (by rw [hsz]; exact Nat.ne_of_lt (Nat.lt_succ_self _)) #[.str a t, .str b t'],
      ⟨⟨_, Heap.get?_push_size _ rfl, rfl, rfl⟩, hT.push _⟩, fun c hc => ?_, by simp, strs_lt (fun i => [a, b].getD i ⟨#[]⟩) (best_walk (items := #[.str a t, .str b t']) (.cons ⟨t, rfl⟩ (.cons ⟨t', rfl⟩ .nil))), fun v h' tk hP hk => ?_⟩
    · show c < ((s.heap.push _).push _).objs.size
      rw [Heap.size_push, hsz]
      rcases List.mem_cons.mp hc with rfl | hc
      · rw [hsz]; exact Nat.lt_succ_self _
      · rcases List.mem_cons.mp hc with rfl | hc
        · exact Nat.lt_succ_of_lt (Nat.lt_succ_self _)
        · cases hc
    · exact fin #[.str a t, .str b t'] _ _ (fun b u e => Heap.get?_push_of_some _ (Heap.get?_push_of_some _ e)) (by rw [hsz]; exact Nat.le_succ _) v h' tk (.cons ⟨t, rfl⟩ (.cons ⟨t', rfl⟩ .nil)) hP hk
  · obtain ⟨its, rv, pt, hz⟩ := I.tuple hq
    rw [Vals.ref1 r]
    have hT : s.heap.IsTuple p its.toArray := pt
    have hplt : p < s.heap.objs.size := by obtain ⟨o, ho, _⟩ := hT; exact Heap.lt_size ho
    refine call_min_walk (wpAny_pyIter_tuple hT ?_)
    refine ⟨_, [_, p], [_], _, _, _, _, rfl, Walks.tuple (A := X.A.in1) (I.ok.hd hc) _ p (Nat.ne_of_lt hplt) its.toArray, ⟨⟨_, Heap.get?_push_size _ rfl, rfl, rfl⟩, hT.push _⟩, fun c hc => ?_, ?_, strs_lt (fun i => ss.getD i ⟨#[]⟩) (best_walk (items := its.toArray) rv), fun v h' tk hP hk => ?_⟩
    · show c < (s.heap.push _).objs.size
      rw [Heap.size_push]
      rcases List.mem_cons.mp hc with rfl | hc
      · exact Nat.lt_succ_self _
      · rcases List.mem_cons.mp hc with rfl | hc
        · exact Nat.lt_succ_of_lt hplt
        · cases hc
    · have := rv.length
      rw [List.length_map] at this
      simp
      omega
    · exact fin its.toArray _ _ (fun b u e => Heap.get?_push_of_some _ e) (Nat.le_refl _) v h' tk rv hP hk
theorem cr_maxT (hc : X.calm = true) : CallR X (.builtin "max") (rBestS X.K fun m j => m.cps.toList < j.cps.toList) := by
  intro pins s σ H vs us Q I r h
  obtain ⟨ss, hh, hne, q⟩ := h
  have hl : 0 < ss.length := List.length_pos_iff.mpr hne
  have fin : ∀ (items : Array Value) (I0 : Addr) (s2 : Shared) (hs2 : ∀ b u, s.heap.get? b = some u → s2.heap.get? b = some u) (hlt : s.heap.objs.size ≤ I0) (v : Value) (h' : Heap) (tk : Nat), Vals (ss.map V.str) items.toList → items[argBest (fun i j => decide ((ss.getD j ⟨#[]⟩).cps.toList < (ss.getD i ⟨#[]⟩).cps.toList)) (items.size - 1)]? = some v →
      (∀ b o, b ∉ [I0] → s2.heap.get? b = some o → h'.get? b = some o) → EP X pins σ Q v { s with heap := h', toks := tk } := by
    intro items I0 s2 hs2 hlt v h' tk hv hP hk
    obtain ⟨t, rfl⟩ := best_walk hv _ v hP
    have hsz : items.size - 1 = ss.length - 1 := by
      have h1 := hv.length
      rw [List.length_map] at h1
      rw [← Array.length_toList, ← h1]
    rw [hsz] at hP ⊢
    obtain ⟨b1, b2⟩ := most_str (fun i => ss.getD i ⟨#[]⟩) (ss.length - 1)
    refine ⟨.str _, H, I.kept (t' := tk) fun b u e => hk b u (fun hmem => ?_) (hs2 b u e), ⟨t, rfl⟩, q _ (best_mem b1 hne) (best_all fun j hj => b2 j hj)⟩
    have e1 : b = I0 := List.mem_singleton.mp hmem
    have e2 := Heap.lt_size e
    rw [e1] at e2
    exact absurd e2 (Nat.not_lt.mpr hlt)
  rcases hh with ⟨a, b, rfl, rfl⟩ | ⟨p, rfl, hq⟩
  · obtain ⟨u, w', rfl, ⟨t, rfl⟩, ⟨t', rfl⟩⟩ := vals2 r
    have hT : (s.heap.push { cls := .type "tuple", data := .seq #[.str a t, .str b t'] }).IsTuple s.heap.objs.size #[.str a t, .str b t'] := ⟨_, Heap.get?_push_size _ rfl, rfl, 0, rfl⟩
    refine call_max_two (wpAny_pyIter_tuple hT ?_)
    have hsz : (s.heap.push { cls := .type "tuple", data := .seq #[.str a t, .str b t'] }).objs.size = s.heap.objs.size + 1 := Heap.size_push ..
    refine ⟨_, [_, s.heap.objs.size], [_], _, _, _, _, rfl, Walks.tuple (A := X.A.in1) (I.ok.hd hc) _ s.heap.objs.size (by rw [hsz]; exact Nat.ne_of_lt (Nat.lt_succ_self _)) #[.str a t, .str b t'],
      ⟨⟨_, Heap.get?_push_size _ rfl, rfl, rfl⟩, hT.push _⟩, fun c hc => ?_, by simp, strs_gt (fun i => [a, b].getD i ⟨#[]⟩) (best_walk (items := #[.str a t, .str b t']) (.cons ⟨t, rfl⟩ (.cons ⟨t', rfl⟩ .nil))), fun v h' tk hP hk => ?_⟩
    · show c < ((s.heap.push _).push _).objs.size
      rw [Heap.size_push, hsz]
      rcases List.mem_cons.mp hc with rfl | hc
      · rw [hsz]; exact Nat.lt_succ_self _
      · rcases List.mem_cons.mp hc with rfl | hc
        · exact Nat.lt_succ_of_lt (Nat.lt_succ_self _)
        · cases hc
    · exact fin #[.str a t, .str b t'] _ _ (fun b u e => Heap.get?_push_of_some _ (Heap.get?_push_of_some _ e)) (by rw [hsz]; exact Nat.le_succ _) v h' tk (.cons ⟨t, rfl⟩ (.cons ⟨t', rfl⟩ .nil)) hP hk
  · obtain ⟨its, rv, pt, hz⟩ := I.tuple hq
    rw [Vals.ref1 r]
    have hT : s.heap.IsTuple p its.toArray := pt
    have hplt : p < s.heap.objs.size := by obtain ⟨o, ho, _⟩ := hT; exact Heap.lt_size ho
    refine call_max_walk (wpAny_pyIter_tuple hT ?_)
    refine ⟨_, [_, p], [_], _, _, _, _, rfl, Walks.tuple (A := X.A.in1) (I.ok.hd hc) _ p (Nat.ne_of_lt hplt) its.toArray, ⟨⟨_, Heap.get?_push_size _ rfl, rfl, rfl⟩, hT.push _⟩, fun c hc => ?_, ?_, strs_gt (fun i => ss.getD i ⟨#[]⟩) (best_walk (items := its.toArray) rv), fun v h' tk hP hk => ?_⟩
    · show c < (s.heap.push _).objs.size
      rw [Heap.size_push]
      rcases List.mem_cons.mp hc with rfl | hc
      · exact Nat.lt_succ_self _
      · rcases List.mem_cons.mp hc with rfl | hc
        · exact Nat.lt_succ_of_lt hplt
        · cases hc
    · have := rv.length
      rw [List.length_map] at this
      simp
      omega
    · exact fin its.toArray _ _ (fun b u e => Heap.get?_push_of_some _ e) (Nat.le_refl _) v h' tk rv hP hk

def minT (ds : List D) : Option (D × Nat) := match ds with
  | [.str a, .str b] => (minS [a, b]).map fun m => (.str m, 0)
  | [.tup ds] => (strsOf ds).bind fun ss => (minS ss).map fun m => (.str m, 0)
  | _ => none
def maxT (ds : List D) : Option (D × Nat) := match ds with
  | [.str a, .str b] => (maxS [a, b]).map fun m => (.str m, 0)
  | [.tup ds] => (strsOf ds).bind fun ss => (maxS ss).map fun m => (.str m, 0)
  | _ => none
theorem blt_minT : Blt X (rBestS X.K fun m j => j.cps.toList < m.cps.toList) minT := by
  intro w ds vs o k Q ok iv ef hr
  unfold minT at ef
  split at ef
  · obtain ⟨m, h3, h4⟩ := Option.map_eq_some_iff.mp ef
    cases h4
    obtain ⟨v, u, rfl, rfl, rfl⟩ := itvs2 iv
    refine ⟨[_, _], .inl ⟨_, _, rfl, rfl⟩, by simp, fun n hn hl => ?_⟩
    rw [minS_uniq h3 hn hl]
    exact hr.str ok
  · obtain ⟨ss, h1, h2⟩ := Option.bind_eq_some_iff.mp ef
    obtain ⟨m, h3, h4⟩ := Option.map_eq_some_iff.mp h2
    cases h4
    obtain ⟨v, rfl, a, xs, rfl, ha, t⟩ := itvs1 iv
    have ha' : SqT X.K w.H a xs := SqT.of (ok _ _ ha)
    rw [strsOf_ok t h1] at ha'
    refine ⟨ss, .inr ⟨a, rfl, ha'⟩, fun z => ?_, fun n hn hl => ?_⟩
    · rw [z] at h3
      cases h3
    · rw [minS_uniq h3 hn hl]
      exact hr.str ok
  · cases ef
theorem blt_maxT : Blt X (rBestS X.K fun m j => m.cps.toList < j.cps.toList) maxT := by
  intro w ds vs o k Q ok iv ef hr
  unfold maxT at ef
  split at ef
  · obtain ⟨m, h3, h4⟩ := Option.map_eq_some_iff.mp ef
    cases h4
    obtain ⟨v, u, rfl, rfl, rfl⟩ := itvs2 iv
    refine ⟨[_, _], .inl ⟨_, _, rfl, rfl⟩, by simp, fun n hn hl => ?_⟩
    rw [maxS_uniq h3 hn hl]
    exact hr.str ok
  · obtain ⟨ss, h1, h2⟩ := Option.bind_eq_some_iff.mp ef
    obtain ⟨m, h3, h4⟩ := Option.map_eq_some_iff.mp h2
    cases h4
    obtain ⟨v, rfl, a, xs, rfl, ha, t⟩ := itvs1 iv
    have ha' : SqT X.K w.H a xs := SqT.of (ok _ _ ha)
    rw [strsOf_ok t h1] at ha'
    refine ⟨ss, .inr ⟨a, rfl, ha'⟩, fun z => ?_, fun n hn hl => ?_⟩
    · rw [z] at h3
      cases h3
    · rw [maxS_uniq h3 hn hl]
      exact hr.str ok
  · cases ef
def minG (ds : List D) : Option (D × Nat) := match minF ds with
  | some r => some r
  | none => match minD ds with
    | some r => some r
    | none => minT ds
def maxG (ds : List D) : Option (D × Nat) := match maxF ds with
  | some r => some r
  | none => maxT ds
def sortG' (ds : List D) : Option (D × Nat) := match sortF ds with
  | some r => some r
  | none => match sortD ds with
    | some r => some r
    | none => sortRF ds
variable {e e2 : Expr} {ms : M (List Op)} {p pos : Pos}
theorem ce_min1G (hc : X.calm = true) (hg : Gl X "min") (hm : X.mg "min" = none) (ha : CA X wx [e] ms) (he : starEach [e] X.env = (false, eval e X.env) :: starEach [] X.env := by rfl) : CE X wx (.Call (.Name "min" p) [e] [] pos) (bltM minG ms) := ce_blt (((call_min2 hc).or (cr_min hc)).or ((cr_minSD hc).or (cr_minT hc))) (Blt.or blt_min (Blt.or blt_minD blt_minT)) hg hm (by decide +kernel) ha (he := he) (hpl := rfl)
theorem ce_min2G (hc : X.calm = true) (hg : Gl X "min") (hm : X.mg "min" = none) (ha : CA X wx [e, e2] ms) (he : starEach [e, e2] X.env = (false, eval e X.env) :: starEach [e2] X.env := by rfl) (hpl : (backTo pos (starEach [e2] X.env)).any (·.1) = false := by rfl) : CE X wx (.Call (.Name "min" p) [e, e2] [] pos) (bltM minG ms) := ce_blt (((call_min2 hc).or (cr_min hc)).or ((cr_minSD hc).or (cr_minT hc))) (Blt.or blt_min (Blt.or blt_minD blt_minT)) hg hm (by decide +kernel) ha (he := he) (hpl := hpl)
theorem ce_max1G (hc : X.calm = true) (hg : Gl X "max") (hm : X.mg "max" = none) (ha : CA X wx [e] ms) (he : starEach [e] X.env = (false, eval e X.env) :: starEach [] X.env := by rfl) : CE X wx (.Call (.Name "max" p) [e] [] pos) (bltM maxG ms) := ce_blt (((call_max2 hc).or (cr_max hc)).or (cr_maxT hc)) (Blt.or blt_max blt_maxT) hg hm (by decide +kernel) ha (he := he) (hpl := rfl)
theorem ce_max2G (hc : X.calm = true) (hg : Gl X "max") (hm : X.mg "max" = none) (ha : CA X wx [e, e2] ms) (he : starEach [e, e2] X.env = (false, eval e X.env) :: starEach [e2] X.env := by rfl) (hpl : (backTo pos (starEach [e2] X.env)).any (·.1) = false := by rfl) : CE X wx (.Call (.Name "max" p) [e, e2] [] pos) (bltM maxG ms) := ce_blt (((call_max2 hc).or (cr_max hc)).or (cr_maxT hc)) (Blt.or blt_max blt_maxT) hg hm (by decide +kernel) ha (he := he) (hpl := hpl)
theorem ce_sortG (hc : X.calm = true) (hg : Gl X "sorted") (hm : X.mg "sorted" = none) (ha : CA X wx [e] ms) (he : starEach [e] X.env = (false, eval e X.env) :: starEach [] X.env := by rfl) : CE X wx (.Call (.Name "sorted" p) [e] [] pos) (bltM sortG' ms) := ce_blt ((cr_sortedS.or (call_sortedD hc)).or ((call_sortSD hc).or cr_sortR)) (Blt.or blt_sort (Blt.or blt_sortD blt_sortR)) hg hm (by decide +kernel) ha (he := he) (hpl := rfl)
end
end Mi

set_option Elab.async false
set_option linter.all false
set_option maxRecDepth 100000
set_option maxHeartbeats 4000000
namespace Mi
open PySem L2

/-! ### what a term does, by what is wanted behind it -/
/-- a mark: what is marked so is left alone by simp -/
def Tk {β : Type} (_ : β) : Type := Unit
def Wr {α : Type} (r : Rs α) (Q : α → Sx → Prop) : Prop := match r with
  | .ok a s => Q a s
  | _ => False
@[irreducible] def Wp {α : Type} (m : M α) (s : Sx) (Q : α → Sx → Prop) (t : Tk (m, Q) := Unit.unit) : Prop := Wr (m s) Q
theorem wr_ex {α : Type} {r : Rs α} {Q : α → Sx → Prop} (h : Wr r Q) : ∃ a s', r = .ok a s' ∧ Q a s' := by
  cases r with
  | ok a s => exact ⟨a, s, rfl, h⟩
  | ex x s => exact h.elim
  | no => exact h.elim
@[irreducible] def FOk (f : Fn) (args : List Slot) (S : List Inst) (Q : D → Nat → List (Option Slot) → List Inst → Prop) (t : Tk (f, S, Q) := Unit.unit) : Prop := match f args S with
  | .ok d k outs S' => Q d k outs S'
  | _ => False
/-- a slot that stands -/
def atS (o : Option (Option Slot)) (K : Slot → Prop) (t : Tk K := Unit.unit) : Prop := match o with
  | some (some sl) => K sl
  | _ => False
def atT (o : Option (Option Slot)) (K : Option Slot → Prop) (t : Tk K := Unit.unit) : Prop := match o with
  | some x => K x
  | none => False
def atO {α : Type} (o : Option α) (K : α → Prop) (t : Tk K := Unit.unit) : Prop := match o with
  | some a => K a
  | none => False
def Bt (k : Bool) (A B : Prop) (t : Tk (A, B) := Unit.unit) : Prop := match k with
  | true => A
  | false => B
def Gd (k : Bool) (A : Prop) (t : Tk A := Unit.unit) : Prop := k = true ∧ A
def z0 (k : Nat) : Bool := k == 0
def le1 (k : Nat) : Bool := decide (k ≤ 1)
theorem atS_s (sl : Slot) (K : Slot → Prop) : atS (some (some sl)) K = K sl := by with_unfolding_all rfl
theorem atT_s (sl : Option Slot) (K : Option Slot → Prop) : atT (some sl) K = K sl := by with_unfolding_all rfl
theorem atO_s {α : Type} (a : α) (K : α → Prop) : atO (some a) K = K a := by with_unfolding_all rfl
theorem Bt_t (A B : Prop) : Bt true A B = A := by with_unfolding_all rfl
theorem Bt_f (A B : Prop) : Bt false A B = B := by with_unfolding_all rfl
theorem Gd_t (A : Prop) : Gd true A = A := propext ⟨fun q => q.2, fun q => ⟨rfl, q⟩⟩
theorem z0_0 : z0 0 = true := by with_unfolding_all rfl
theorem z0_s (k : Nat) : z0 (k + 1) = false := by with_unfolding_all rfl
theorem z0_1 : z0 1 = false := by with_unfolding_all rfl
theorem z0_2 : z0 2 = false := by with_unfolding_all rfl
theorem le1_0 : le1 0 = true := by with_unfolding_all rfl
theorem le1_1 : le1 1 = true := by with_unfolding_all rfl
theorem fz_0 (d : D) : fzOk 0 d = true := by cases d <;> with_unfolding_all rfl
theorem fz_all (ds : List D) : ds.all (fzOk 0) = true := by
  rw [List.all_eq_true]
  exact fun d _ => fz_0 d
theorem fz_l1 (ds : List D) : fzOk 1 (.lst ds) = true := fz_all ds
theorem Bt_by {k : Bool} {A B : Prop} (h1 : k = true → A) (h2 : k = false → B) : Bt k A B := by
  cases k
  · exact h2 rfl
  · exact h1 rfl
theorem Gd_by {k : Bool} {A : Prop} (h1 : k = true) (h2 : A) : Gd k A := ⟨h1, h2⟩
section
variable {α β : Type} {s s' : Sx} {d e : D} {k i j : Nat} {r : List (Option Slot)} {S : List Inst}
theorem wp_ex {m : M α} {Q : α → Sx → Prop} (h : Wp m s Q) : ∃ a s', m s = .ok a s' ∧ Q a s' := by
  unfold Wp at h
  exact wr_ex h
theorem w_no {Q : α → Sx → Prop} (h : Wp (stuck : M α) s Q) : False := by
  unfold Wp at h
  exact h
theorem Wp.mono {m : M α} {Q Q' : α → Sx → Prop} (h : Wp m s Q) (g : ∀ a s', Q a s' → Q' a s') : Wp m s Q' := by
  obtain ⟨a, s', e, q⟩ := wp_ex h
  unfold Wp
  rw [e]
  exact g a s' q
theorem FOk.ex {f : Fn} {args : List Slot} {Q : D → Nat → List (Option Slot) → List Inst → Prop} (h : FOk f args S Q) : ∃ d k outs S', f args S = .ok d k outs S' ∧ Q d k outs S' := by
  unfold FOk at h
  split at h
  · rename_i d k outs S' e
    exact ⟨d, k, outs, S', e, h⟩
  · exact h.elim
theorem FOk.of {f : Fn} {args : List Slot} {d : D} {k : Nat} {outs : List (Option Slot)} {S' : List Inst} {Q : D → Nat → List (Option Slot) → List Inst → Prop} (e : f args S = .ok d k outs S') (q : Q d k outs S') : FOk f args S Q := by
  unfold FOk
  rw [e]
  exact q
theorem FOk.mono {f : Fn} {args : List Slot} {Q Q' : D → Nat → List (Option Slot) → List Inst → Prop} (h : FOk f args S Q) (g : ∀ d k outs S', Q d k outs S' → Q' d k outs S') : FOk f args S Q' := by
  obtain ⟨d, k, outs, S', e, q⟩ := h.ex
  exact FOk.of e (g d k outs S' q)
theorem wp_cg {m : M α} {Q Q' : α → Sx → Prop} (h : ∀ a s', Q a s' = Q' a s') : Wp m s Q = Wp m s Q' := by
  rw [show Q = Q' from funext fun a => funext fun s' => h a s']
theorem ato_cg {o : Option α} {Q Q' : α → Prop} (h : ∀ a, Q a = Q' a) : atO o Q = atO o Q' := by
  rw [show Q = Q' from funext fun a => h a]
theorem bt_cg {k : Bool} {A B A' B' : Prop} (h : A = A') (h2 : B = B') : Bt k A B = Bt k A' B' := by
  rw [h, h2]
theorem wp_of {m : M α} {a : α} {Q : α → Sx → Prop} (h : m s = .ok a s') (q : Q a s') : Wp m s Q := by
  unfold Wp
  rw [h]
  exact q
theorem w_bnd (m : M α) (f : α → M β) (Q : β → Sx → Prop) : Wp (bnd m f) s Q = Wp m s (fun a s' => Wp (f a) s' Q) := by
  unfold Wp bnd
  cases m s <;> with_unfolding_all rfl
theorem w_ret (a : α) (Q : α → Sx → Prop) : Wp (ret a) s Q = Q a s := by with_unfolding_all rfl
theorem w_stuck (Q : α → Sx → Prop) : Wp (stuck : M α) s Q = False := by with_unfolding_all rfl
theorem w_opt (o : Option α) (Q : α → Sx → Prop) : Wp (opt o) s Q = atO o (fun a => Q a s) := by cases o <;> with_unfolding_all rfl
theorem w_ite {c : Prop} [Decidable c] (a b : M α) (Q : α → Sx → Prop) : Wp (if c then a else b) s Q = Bt (decide c) (Wp a s Q) (Wp b s Q) := by
  by_cases h : c
  · rw [if_pos h, decide_eq_true h]
    with_unfolding_all rfl
  · rw [if_neg h, decide_eq_false h]
    with_unfolding_all rfl
theorem w_vr (Q : Op → Sx → Prop) : Wp (vr i) ⟨r, S⟩ Q = atS r[i]? (fun _ => Q (.slot i) ⟨r, S⟩) := by
  unfold Wp vr
  dsimp only
  cases r[i]? with
  | none => with_unfolding_all rfl
  | some o => cases o <;> with_unfolding_all rfl
theorem w_cn (Q : Op → Sx → Prop) : Wp (cn d) s Q = Q (.val d 0) s := by with_unfolding_all rfl
theorem w_lookV (Q : D × Nat → Sx → Prop) : Wp (look (.val d k)) s Q = Q (d, k) s := by with_unfolding_all rfl
theorem w_lookS (Q : D × Nat → Sx → Prop) : Wp (look (.slot i)) ⟨r, S⟩ Q = atS r[i]? (fun sl => Q (sl.d, sl.k) ⟨r, S⟩) := by
  unfold Wp look
  dsimp only
  cases r[i]? with
  | none => with_unfolding_all rfl
  | some o => cases o <;> with_unfolding_all rfl
theorem w_flatV (Q : D → Sx → Prop) : Wp (flat (.val d k)) s Q = Gd (le1 k) (Q d s) := by
  unfold Wp
  rw [e_flatV]
  by_cases h : k ≤ 1
  · rw [if_pos h]
    exact propext ⟨fun q => ⟨decide_eq_true h, q⟩, fun q => q.2⟩
  · rw [if_neg h]
    exact propext ⟨fun q => q.elim, fun q => h (of_decide_eq_true q.1)⟩
theorem w_flatS (Q : D → Sx → Prop) : Wp (flat (.slot i)) ⟨r, S⟩ Q = atS r[i]? (fun sl => Gd (le1 sl.k) (Q sl.d ⟨r, S⟩)) := by
  unfold Wp
  rw [e_flatS]
  dsimp only
  cases r[i]? with
  | none => with_unfolding_all rfl
  | some o => cases o with
    | none => with_unfolding_all rfl
    | some sl =>
      dsimp only [atS]
      by_cases h : sl.k ≤ 1
      · rw [if_pos h]
        exact propext ⟨fun q => ⟨decide_eq_true h, q⟩, fun q => q.2⟩
      · rw [if_neg h]
        exact propext ⟨fun q => q.elim, fun q => h (of_decide_eq_true q.1)⟩
theorem w_ownV (Q : D × Nat → Sx → Prop) : Wp (own (.val d k)) s Q = Q (d, k) s := by with_unfolding_all rfl
theorem w_ownS (Q : D × Nat → Sx → Prop) : Wp (own (.slot i)) ⟨r, S⟩ Q = atS r[i]? (fun sl => Gd (fzOk sl.k sl.d) (Q (sl.d, 0) ⟨r.set i (some ⟨sl.d, 0, sl.pin⟩), S⟩)) := by
  unfold Wp
  rw [e_ownS]
  dsimp only
  cases r[i]? with
  | none => with_unfolding_all rfl
  | some o => cases o with
    | none => with_unfolding_all rfl
    | some sl =>
      dsimp only [atS]
      by_cases h : fzOk sl.k sl.d = true
      · rw [if_pos h]
        exact propext ⟨fun q => ⟨h, q⟩, fun q => q.2⟩
      · rw [if_neg h]
        exact propext ⟨fun q => q.elim, fun q => h q.1⟩
theorem w_movV (Q : D × Nat → Sx → Prop) : Wp (mov (.val d k)) s Q = Q (d, k) s := by with_unfolding_all rfl
theorem w_movS (Q : D × Nat → Sx → Prop) : Wp (mov (.slot i)) ⟨r, S⟩ Q = atS r[i]? (fun sl => Bt (z0 sl.k) (Q (sl.d, 0) ⟨r, S⟩) (Bt sl.pin (Wp (own (.slot i)) ⟨r, S⟩ Q) (Q (sl.d, sl.k) ⟨r.set i none, S⟩))) := by
  unfold Wp
  rw [e_movS]
  dsimp only
  cases r[i]? with
  | none => with_unfolding_all rfl
  | some o => cases o with
    | none => with_unfolding_all rfl
    | some sl =>
      obtain ⟨d, k, p⟩ := sl
      dsimp only [atS]
      cases k with
      | zero => with_unfolding_all rfl
      | succ k =>
        rw [if_neg (Nat.succ_ne_zero k)]
        cases p <;> with_unfolding_all rfl
theorem w_ifS (c : M Bool) (a b : M Flow) (Q : Flow → Sx → Prop) : Wp (ifS c a b) s Q = Wp c s (fun k s' => Bt k (Wp a s' Q) (Wp b s' Q)) := by
  unfold ifS
  rw [w_bnd]
  refine wp_cg fun k s' => ?_
  cases k <;> with_unfolding_all rfl
theorem w_ifV (c : M Bool) (a b : M Op) (Q : Op → Sx → Prop) : Wp (ifV c a b) s Q = Wp c s (fun k s' => Bt k (Wp a s' Q) (Wp b s' Q)) := by
  unfold ifV
  rw [w_bnd]
  refine wp_cg fun k s' => ?_
  cases k <;> with_unfolding_all rfl
theorem w_andT (a b : M Bool) (Q : Bool → Sx → Prop) : Wp (andT a b) s Q = Wp a s (fun k s' => Bt k (Wp b s' Q) (Q false s')) := by
  unfold andT
  rw [w_bnd]
  refine wp_cg fun k s' => ?_
  cases k <;> with_unfolding_all rfl
theorem w_orT (a b : M Bool) (Q : Bool → Sx → Prop) : Wp (orT a b) s Q = Wp a s (fun k s' => Bt k (Q true s') (Wp b s' Q)) := by
  unfold orT
  rw [w_bnd]
  refine wp_cg fun k s' => ?_
  cases k <;> with_unfolding_all rfl
theorem w_notT (a : M Bool) (Q : Bool → Sx → Prop) : Wp (notT a) s Q = Wp a s (fun k s' => Q (!k) s') := by
  unfold notT
  rw [w_bnd]
  with_unfolding_all rfl
theorem w_truM (a : M Op) (Q : Bool → Sx → Prop) : Wp (truM a) s Q = Wp a s (fun x s' => Wp (look x) s' fun d s2 => atO (truB d.1) fun k => Q k s2) := by
  unfold truM
  repeat first | (rw [w_bnd, w_opt]; refine ato_cg fun _ => ?_) | (rw [w_bnd]; refine wp_cg fun _ _ => ?_) | (rw [w_opt]; refine ato_cg fun _ => ?_) | (rw [w_leC, w_ret]) | (rw [w_ite, Bool.decide_eq_true]; refine bt_cg ?_ ?_) | with_unfolding_all rfl | rw [w_opt] | rw [w_bnd]
theorem w_andV (a b : M Op) (Q : Op → Sx → Prop) : Wp (andV a b) s Q = Wp a s (fun x s' => Wp (look x) s' fun d s2 => atO (truB d.1) fun k => Bt k (Wp b s2 Q) (Q x s2)) := by
  unfold andV
  rw [w_bnd]
  refine wp_cg fun x s' => ?_
  rw [w_bnd]
  refine wp_cg fun d s2 => ?_
  rw [w_bnd, w_opt]
  refine ato_cg fun k => ?_
  cases k <;> with_unfolding_all rfl
theorem w_orV (a b : M Op) (Q : Op → Sx → Prop) : Wp (orV a b) s Q = Wp a s (fun x s' => Wp (look x) s' fun d s2 => atO (truB d.1) fun k => Bt k (Q x s2) (Wp b s2 Q)) := by
  unfold orV
  rw [w_bnd]
  refine wp_cg fun x s' => ?_
  rw [w_bnd]
  refine wp_cg fun d s2 => ?_
  rw [w_bnd, w_opt]
  refine ato_cg fun k => ?_
  cases k <;> with_unfolding_all rfl
theorem w_notV (a : M Op) (Q : Op → Sx → Prop) : Wp (notV a) s Q = Wp a s (fun x s' => Wp (look x) s' fun d s2 => atO (truB d.1) fun k => Q (.val (.bl (!k)) 0) s2) := by
  unfold notV
  rw [w_bnd]
  refine wp_cg fun x s' => ?_
  rw [w_bnd]
  refine wp_cg fun d s2 => ?_
  rw [w_bnd, w_opt]
  refine ato_cg fun k => ?_
  cases k <;> with_unfolding_all rfl
/-- what is behind a statement -/
def Sq (b : M Flow) (Q : Flow → Sx → Prop) (f : Flow) (s : Sx) (t : Tk (b, Q) := Unit.unit) : Prop := match f with
  | .nx => Wp b s Q
  | .bk => Q .bk s
  | .ct => Q .ct s
  | .rt d k => Q (.rt d k) s
theorem Sq_nx (b : M Flow) (Q : Flow → Sx → Prop) : Sq b Q .nx s = Wp b s Q := by with_unfolding_all rfl
theorem Sq_bk (b : M Flow) (Q : Flow → Sx → Prop) : Sq b Q .bk s = Q .bk s := by with_unfolding_all rfl
theorem Sq_ct (b : M Flow) (Q : Flow → Sx → Prop) : Sq b Q .ct s = Q .ct s := by with_unfolding_all rfl
theorem Sq_rt (b : M Flow) (Q : Flow → Sx → Prop) : Sq b Q (.rt d k) s = Q (.rt d k) s := by with_unfolding_all rfl
theorem w_seq (a b : M Flow) (Q : Flow → Sx → Prop) : Wp (seqM a b) s Q = Wp a s (fun f s' => Sq b Q f s') := by
  unfold seqM
  rw [w_bnd]
  refine wp_cg fun k s' => ?_
  cases k <;> with_unfolding_all rfl
theorem w_bin (f : D → D → Option (D × Nat)) (a b : M Op) (Q : Op → Sx → Prop) : Wp (bin f a b) s Q = Wp a s (fun x s1 => Wp b s1 fun y s2 => Wp (flat x) s2 fun d s3 => Wp (flat y) s3 fun e s4 => atO (f d e) fun r => Q (.val r.1 r.2) s4) := by
  unfold bin
  repeat first | (rw [w_bnd, w_opt]; refine ato_cg fun _ => ?_) | (rw [w_bnd]; refine wp_cg fun _ _ => ?_) | (rw [w_opt]; refine ato_cg fun _ => ?_) | (rw [w_leC, w_ret]) | (rw [w_ite, Bool.decide_eq_true]; refine bt_cg ?_ ?_) | with_unfolding_all rfl | rw [w_opt] | rw [w_bnd]
theorem w_uno (f : D → Option (D × Nat)) (a : M Op) (Q : Op → Sx → Prop) : Wp (uno f a) s Q = Wp a s (fun x s2 => Wp (flat x) s2 fun d s3 => atO (f d) fun r => Q (.val r.1 r.2) s3) := by
  unfold uno
  repeat first | (rw [w_bnd, w_opt]; refine ato_cg fun _ => ?_) | (rw [w_bnd]; refine wp_cg fun _ _ => ?_) | (rw [w_opt]; refine ato_cg fun _ => ?_) | (rw [w_leC, w_ret]) | (rw [w_ite, Bool.decide_eq_true]; refine bt_cg ?_ ?_) | with_unfolding_all rfl | rw [w_opt] | rw [w_bnd]
theorem w_cmpV (f : D → D → Option Bool) (a b : M Op) (Q : Op → Sx → Prop) : Wp (cmpV f a b) s Q = Wp a s (fun x s1 => Wp b s1 fun y s2 => Wp (look x) s2 fun d s3 => Wp (look y) s3 fun e s4 => atO (f d.1 e.1) fun c => Q (.val (.bl c) 0) s4) := by
  unfold cmpV
  repeat first | (rw [w_bnd, w_opt]; refine ato_cg fun _ => ?_) | (rw [w_bnd]; refine wp_cg fun _ _ => ?_) | (rw [w_opt]; refine ato_cg fun _ => ?_) | (rw [w_leC, w_ret]) | (rw [w_ite, Bool.decide_eq_true]; refine bt_cg ?_ ?_) | with_unfolding_all rfl | rw [w_opt] | rw [w_bnd]
theorem w_cmpT (f : D → D → Option Bool) (a b : M Op) (Q : Bool → Sx → Prop) : Wp (cmpT f a b) s Q = Wp a s (fun x s1 => Wp b s1 fun y s2 => Wp (look x) s2 fun d s3 => Wp (look y) s3 fun e s4 => atO (f d.1 e.1) fun c => Q c s4) := by
  unfold cmpT
  repeat first | (rw [w_bnd, w_opt]; refine ato_cg fun _ => ?_) | (rw [w_bnd]; refine wp_cg fun _ _ => ?_) | (rw [w_opt]; refine ato_cg fun _ => ?_) | (rw [w_leC, w_ret]) | (rw [w_ite, Bool.decide_eq_true]; refine bt_cg ?_ ?_) | with_unfolding_all rfl | rw [w_opt] | rw [w_bnd]
theorem w_chV (f f' : D → D → Option Bool) (a b c : M Op) (Q : Op → Sx → Prop) : Wp (chV f f' a b c) s Q = Wp a s (fun x s1 => Wp b s1 fun y s2 => Wp (look x) s2 fun d s3 => Wp (look y) s3 fun e s4 => atO (f d.1 e.1) fun k => Bt k (Wp c s4 fun z s5 => Wp (look y) s5 fun e' s6 => Wp (look z) s6 fun h s7 => atO (f' e'.1 h.1) fun k' => Q (.val (.bl k') 0) s7) (Q (.val (.bl false) 0) s4)) := by
  unfold chV
  repeat first | (rw [w_bnd, w_opt]; refine ato_cg fun _ => ?_) | (rw [w_bnd]; refine wp_cg fun _ _ => ?_) | (rw [w_opt]; refine ato_cg fun _ => ?_) | (rw [w_leC, w_ret]) | (rw [w_ite, Bool.decide_eq_true]; refine bt_cg ?_ ?_) | with_unfolding_all rfl | rw [w_opt] | rw [w_bnd]
theorem w_chT (f f' : D → D → Option Bool) (a b c : M Op) (Q : Bool → Sx → Prop) : Wp (chT f f' a b c) s Q = Wp a s (fun x s1 => Wp b s1 fun y s2 => Wp (look x) s2 fun d s3 => Wp (look y) s3 fun e s4 => atO (f d.1 e.1) fun k => Bt k (Wp c s4 fun z s5 => Wp (look y) s5 fun e' s6 => Wp (look z) s6 fun h s7 => atO (f' e'.1 h.1) fun k' => Q k' s7) (Q false s4)) := by
  unfold chT
  repeat first | (rw [w_bnd, w_opt]; refine ato_cg fun _ => ?_) | (rw [w_bnd]; refine wp_cg fun _ _ => ?_) | (rw [w_opt]; refine ato_cg fun _ => ?_) | (rw [w_leC, w_ret]) | (rw [w_ite, Bool.decide_eq_true]; refine bt_cg ?_ ?_) | with_unfolding_all rfl | rw [w_opt] | rw [w_bnd]
theorem w_st (f : D → Nat → M Unit) (m : M Op) (Q : Flow → Sx → Prop) : Wp (stM f m) s Q = Wp m s (fun o s1 => Wp (own o) s1 fun p s2 => Wp (f p.1 p.2) s2 fun _ s3 => Q .nx s3) := by
  unfold stM
  repeat first | (rw [w_bnd, w_opt]; refine ato_cg fun _ => ?_) | (rw [w_bnd]; refine wp_cg fun _ _ => ?_) | (rw [w_opt]; refine ato_cg fun _ => ?_) | (rw [w_leC, w_ret]) | (rw [w_ite, Bool.decide_eq_true]; refine bt_cg ?_ ?_) | with_unfolding_all rfl | rw [w_opt] | rw [w_bnd]
theorem w_rt (m : M Op) (Q : Flow → Sx → Prop) : Wp (rtM m) s Q = Wp m s (fun o s1 => Wp (mov o) s1 fun p s2 => Q (.rt p.1 p.2) s2) := by
  unfold rtM
  repeat first | (rw [w_bnd, w_opt]; refine ato_cg fun _ => ?_) | (rw [w_bnd]; refine wp_cg fun _ _ => ?_) | (rw [w_opt]; refine ato_cg fun _ => ?_) | (rw [w_leC, w_ret]) | (rw [w_ite, Bool.decide_eq_true]; refine bt_cg ?_ ?_) | with_unfolding_all rfl | rw [w_opt] | rw [w_bnd]
theorem w_exM (m : M Op) (Q : Flow → Sx → Prop) : Wp (exM m) s Q = Wp m s (fun _ s1 => Q .nx s1) := by
  unfold exM
  repeat first | (rw [w_bnd, w_opt]; refine ato_cg fun _ => ?_) | (rw [w_bnd]; refine wp_cg fun _ _ => ?_) | (rw [w_opt]; refine ato_cg fun _ => ?_) | (rw [w_leC, w_ret]) | (rw [w_ite, Bool.decide_eq_true]; refine bt_cg ?_ ?_) | with_unfolding_all rfl | rw [w_opt] | rw [w_bnd]
def pinned (o : Option Slot) : Bool := match o with
  | some sl => sl.pin
  | none => false
theorem pin_s (d : D) (k : Nat) (p : Bool) : pinned (some ⟨d, k, p⟩) = p := by with_unfolding_all rfl
theorem pin_n : pinned none = false := by with_unfolding_all rfl
theorem Gd_by' {k : Bool} {A : Prop} : Gd k A = (k = true ∧ A) := by with_unfolding_all rfl
theorem w_set (Q : Unit → Sx → Prop) : Wp (setM i d k) ⟨r, S⟩ Q = atT r[i]? (fun o => Gd (!pinned o) (Q () ⟨r.set i (some ⟨d, k, false⟩), S⟩)) := by
  unfold Wp setM
  dsimp only
  cases r[i]? with
  | none => with_unfolding_all rfl
  | some o => cases o with
    | none =>
      exact (Gd_t _).symm
    | some sl =>
      obtain ⟨d0, k0, p⟩ := sl
      cases p
      · exact (Gd_t _).symm
      · exact propext ⟨fun q => q.elim, fun q => nomatch q.1⟩
theorem w_evN (Q : List Op → Sx → Prop) : Wp evN s Q = Q [] s := by with_unfolding_all rfl
theorem w_evC (m : M Op) (ms : M (List Op)) (Q : List Op → Sx → Prop) : Wp (evC m ms) s Q = Wp m s (fun o s1 => Wp ms s1 fun os s2 => Q (o :: os) s2) := by
  unfold evC
  repeat first | (rw [w_bnd, w_opt]; refine ato_cg fun _ => ?_) | (rw [w_bnd]; refine wp_cg fun _ _ => ?_) | (rw [w_opt]; refine ato_cg fun _ => ?_) | (rw [w_leC, w_ret]) | (rw [w_ite, Bool.decide_eq_true]; refine bt_cg ?_ ?_) | with_unfolding_all rfl | rw [w_opt] | rw [w_bnd]
theorem w_flats0 (Q : List D → Sx → Prop) : Wp (flats []) s Q = Q [] s := by with_unfolding_all rfl
theorem w_flats (o : Op) (os : List Op) (Q : List D → Sx → Prop) : Wp (flats (o :: os)) s Q = Wp (flat o) s (fun d s1 => Wp (flats os) s1 fun ds s2 => Q (d :: ds) s2) := by
  show Wp (bnd (flat o) _) s Q = _
  repeat first | (rw [w_bnd, w_opt]; refine ato_cg fun _ => ?_) | (rw [w_bnd]; refine wp_cg fun _ _ => ?_) | (rw [w_opt]; refine ato_cg fun _ => ?_) | (rw [w_leC, w_ret]) | (rw [w_ite, Bool.decide_eq_true]; refine bt_cg ?_ ?_) | with_unfolding_all rfl | rw [w_opt] | rw [w_bnd]
theorem w_fzo (o : Op) (Q : D → Sx → Prop) : Wp (fzo o) s Q = Wp (own o) s (fun p s1 => Gd (fzOk p.2 p.1) (Q p.1 s1)) := by
  unfold fzo
  rw [w_bnd]
  refine wp_cg fun p s1 => ?_
  rw [w_ite]
  cases h : fzOk p.2 p.1
  · exact propext ⟨fun q => (w_no q).elim, fun q => nomatch q.1⟩
  · rw [Gd_t]
    with_unfolding_all rfl
theorem w_fzos0 (Q : List D → Sx → Prop) : Wp (fzos []) s Q = Q [] s := by with_unfolding_all rfl
theorem w_fzos (o : Op) (os : List Op) (Q : List D → Sx → Prop) : Wp (fzos (o :: os)) s Q = Wp (fzo o) s (fun d s1 => Wp (fzos os) s1 fun ds s2 => Q (d :: ds) s2) := by
  show Wp (bnd (fzo o) _) s Q = _
  repeat first | (rw [w_bnd, w_opt]; refine ato_cg fun _ => ?_) | (rw [w_bnd]; refine wp_cg fun _ _ => ?_) | (rw [w_opt]; refine ato_cg fun _ => ?_) | (rw [w_leC, w_ret]) | (rw [w_ite, Bool.decide_eq_true]; refine bt_cg ?_ ?_) | with_unfolding_all rfl | rw [w_opt] | rw [w_bnd]
theorem w_blt (f : List D → Option (D × Nat)) (ms : M (List Op)) (Q : Op → Sx → Prop) : Wp (bltM f ms) s Q = Wp ms s (fun os s1 => Wp (flats os) s1 fun ds s2 => atO (f ds) fun r => Q (.val r.1 r.2) s2) := by
  unfold bltM
  repeat first | (rw [w_bnd, w_opt]; refine ato_cg fun _ => ?_) | (rw [w_bnd]; refine wp_cg fun _ _ => ?_) | (rw [w_opt]; refine ato_cg fun _ => ?_) | (rw [w_leC, w_ret]) | (rw [w_ite, Bool.decide_eq_true]; refine bt_cg ?_ ?_) | with_unfolding_all rfl | rw [w_opt] | rw [w_bnd]
def leC (n : Nat) : Bool := decide (n ≤ cap)
theorem w_leC {n : Nat} (a : M α) (Q : α → Sx → Prop) : Wp (if n ≤ cap then a else stuck) s Q = Gd (leC n) (Wp a s Q) := by
  by_cases h : n ≤ cap
  · rw [if_pos h]
    exact propext ⟨fun q => ⟨decide_eq_true h, q⟩, fun q => q.2⟩
  · rw [if_neg h]
    exact propext ⟨fun q => (w_no q).elim, fun q => (h (of_decide_eq_true q.1)).elim⟩
theorem leC_0 : leC ([] : List D).length = true := by decide
theorem leC_1 (a : D) : leC [a].length = true := by with_unfolding_all rfl
theorem leC_2 (a b : D) : leC [a, b].length = true := by with_unfolding_all rfl
theorem leC_3 (a b c : D) : leC [a, b, c].length = true := by with_unfolding_all rfl
theorem leC_4 (a b c d : D) : leC [a, b, c, d].length = true := by with_unfolding_all rfl
theorem leC_5 (a b c d e : D) : leC [a, b, c, d, e].length = true := by with_unfolding_all rfl
theorem leC_6 (a b c d e f : D) : leC [a, b, c, d, e, f].length = true := by with_unfolding_all rfl
theorem leC_of {n : Nat} (h : n ≤ cap) : leC n = true := decide_eq_true h
theorem w_tup (ms : M (List Op)) (Q : Op → Sx → Prop) : Wp (tupM ms) s Q = Wp ms s (fun os s1 => Wp (fzos os) s1 fun ds s2 => Gd (leC ds.length) (Q (.val (.tup ds) 0) s2)) := by
  unfold tupM
  repeat first | (rw [w_bnd, w_opt]; refine ato_cg fun _ => ?_) | (rw [w_bnd]; refine wp_cg fun _ _ => ?_) | (rw [w_opt]; refine ato_cg fun _ => ?_) | (rw [w_leC, w_ret]) | (rw [w_ite, Bool.decide_eq_true]; refine bt_cg ?_ ?_) | with_unfolding_all rfl | rw [w_opt] | rw [w_bnd]
theorem w_lst (ms : M (List Op)) (Q : Op → Sx → Prop) : Wp (lstM ms) s Q = Wp ms s (fun os s1 => Wp (fzos os) s1 fun ds s2 => Gd (leC ds.length) (Q (.val (.lst ds) 1) s2)) := by
  unfold lstM
  repeat first | (rw [w_bnd, w_opt]; refine ato_cg fun _ => ?_) | (rw [w_bnd]; refine wp_cg fun _ _ => ?_) | (rw [w_opt]; refine ato_cg fun _ => ?_) | (rw [w_leC, w_ret]) | (rw [w_ite, Bool.decide_eq_true]; refine bt_cg ?_ ?_) | with_unfolding_all rfl | rw [w_opt] | rw [w_bnd]
theorem w_noX {m : Sx → Rs α} (Q : α → Sx → Prop) : Wp (fun s => noX (m s)) s Q = Wp m s Q := by
  unfold Wp noX
  dsimp only
  cases m s <;> with_unfolding_all rfl
/-- what is set at a place of what stands in a slot -/
def stO (sl : Slot) (key d : D) : Option Slot := match sl with
  | ⟨.lst ds, 1, p⟩ => match key with
    | .int k => (ixN ds.length k).map fun j => ⟨.lst (ds.set j d), 1, p⟩
    | _ => none
  | ⟨.dct kvs, 1, p⟩ => match keyOf key with
    | some k => if kvs.length < cap then some ⟨.dct (putD kvs k d), 1, p⟩ else none
    | none => none
  | _ => none
theorem w_stO (key : D) (Q : Unit → Sx → Prop) : Wp (setAt (.slot i) key d) ⟨r, S⟩ Q = atS r[i]? (fun sl => atO (stO sl key d) fun sl' => Q () ⟨r.set i (some sl'), S⟩) := by
  unfold Wp setAt
  dsimp only
  cases r[i]? with
  | none => with_unfolding_all rfl
  | some o => cases o with
    | none => with_unfolding_all rfl
    | some sl =>
      obtain ⟨d0, k0, p⟩ := sl
      cases d0 with
      | lst ds =>
        cases k0 with
        | zero => with_unfolding_all rfl
        | succ k0 => cases k0 with
          | succ k0 => with_unfolding_all rfl
          | zero => cases key with
            | int z =>
              show Wr (match ixN ds.length z with
                | some j => Rs.ok () ⟨r.set i (some ⟨.lst (ds.set j d), 1, p⟩), S⟩
                | none => .no) Q = atO ((ixN ds.length z).map _) _
              cases ixN ds.length z <;> with_unfolding_all rfl
            | _ => with_unfolding_all rfl
      | dct kvs =>
        cases k0 with
        | zero => with_unfolding_all rfl
        | succ k0 => cases k0 with
          | succ k0 => with_unfolding_all rfl
          | zero =>
            cases h : keyOf key with
            | none => simp [Wr, atS, stO, atO, h]
            | some k =>
              by_cases hc : kvs.length < cap
              · simp [Wr, atS, stO, atO, h, hc]
              · simp [Wr, atS, stO, atO, h, hc]
      | _ => with_unfolding_all rfl
theorem w_idx (mo mi : M Op) (Q : Unit → Sx → Prop) : Wp (idxG mo mi d k) s Q = Gd (fzOk k d) (Wp mo s fun o s1 => Wp mi s1 fun y s2 => Wp (flat y) s2 fun key s3 => Wp (setAt o key d) s3 Q) := by
  unfold idxG
  rw [w_noX]
  cases h : fzOk k d
  · exact propext ⟨fun q => (w_no q).elim, fun q => nomatch q.1⟩
  · rw [Gd_t]
    show Wp (bnd mo _) s Q = _
    repeat first | (rw [w_bnd, w_opt]; refine ato_cg fun _ => ?_) | (rw [w_bnd]; refine wp_cg fun _ _ => ?_) | (rw [w_opt]; refine ato_cg fun _ => ?_) | (rw [w_leC, w_ret]) | (rw [w_ite, Bool.decide_eq_true]; refine bt_cg ?_ ?_) | with_unfolding_all rfl | rw [w_opt] | rw [w_bnd]
end
end Mi

set_option Elab.async false
set_option linter.all false
set_option maxRecDepth 100000
set_option maxHeartbeats 4000000
namespace Mi
open PySem L2

/-! ### calls -/
def atG (o : Option (Args × List (Option Slot))) (K : Args → List (Option Slot) → Prop) (t : Tk K := Unit.unit) : Prop := match o with
  | some (a, r) => K a r
  | none => False
def Gt (os : List Op) (r : List (Option Slot)) (K : Args → List (Option Slot) → Prop) (t : Tk K := Unit.unit) : Prop := atG (gth os r) K
def callO (f : Fn) (np : Nat) (dfl : List D) (os : List Op) : M Op := callM f np dfl (ret os)
def neq (a b : Nat) : Bool := a == b
theorem neq_t (a : Nat) : neq a a = true := beq_self_eq_true a
theorem len_c {α : Type} (a : α) (l : List α) : (a :: l).length = l.length + 1 := by with_unfolding_all rfl
theorem len_n {α : Type} : ([] : List α).length = 0 := by with_unfolding_all rfl
section
variable {α β : Type} {s s' : Sx} {d e : D} {k i j : Nat} {r : List (Option Slot)} {S : List Inst}
theorem gt_0 (K : Args → List (Option Slot) → Prop) : Gt [] r K = K [] r := by with_unfolding_all rfl
theorem gt_V (os : List Op) (K : Args → List (Option Slot) → Prop) : Gt (.val d k :: os) r K = Gt os r (fun a r' => K ((⟨d, k, false⟩, none) :: a) r') := by
  unfold Gt
  rw [e_gthV]
  cases gth os r <;> with_unfolding_all rfl
theorem gt_S (os : List Op) (K : Args → List (Option Slot) → Prop) : Gt (.slot i :: os) r K = atS r[i]? (fun sl => Bt (z0 sl.k) (Gt os r (fun a r' => K ((⟨sl.d, 0, false⟩, none) :: a) r')) (Gt os (r.set i none) (fun a r' => K ((⟨sl.d, sl.k, true⟩, some (i, sl.pin)) :: a) r'))) := by
  unfold Gt
  rw [e_gthS]
  cases r[i]? with
  | none => with_unfolding_all rfl
  | some o => cases o with
    | none => with_unfolding_all rfl
    | some sl =>
      obtain ⟨d, k, p⟩ := sl
      cases k with
      | zero =>
        show atG ((gth os r).map _) K = Gt os r _
        unfold Gt
        cases gth os r <;> with_unfolding_all rfl
      | succ k =>
        show atG ((gth os (r.set i none)).map _) K = Gt os (r.set i none) _
        unfold Gt
        cases gth os (r.set i none) <;> with_unfolding_all rfl
theorem w_call (f : Fn) (np : Nat) (dfl : List D) (ms : M (List Op)) (Q : Op → Sx → Prop) : Wp (callM f np dfl ms) s Q = Wp ms s (fun os s1 => Wp (callO f np dfl os) s1 Q) := by
  unfold callO
  unfold callM
  rw [w_bnd]
  exact wp_cg fun os s1 => by rw [w_bnd, w_ret]
theorem w_callO (f : Fn) (np : Nat) (dfl : List D) (os : List Op) (Q : Op → Sx → Prop) : Wp (callO f np dfl os) ⟨r, S⟩ Q = Gd (neq (os.length + dfl.length) np) (Gt os r fun args r' => FOk f (args.map (·.1) ++ dflS dfl) S fun d k outs S' => Q (.val d k) ⟨fill args outs r', S'⟩) := by
  unfold callO Wp
  rw [e_call, e_ret]
  dsimp only
  by_cases h : os.length + dfl.length = np
  · rw [if_pos h]
    have e : neq (os.length + dfl.length) np = true := by rw [h]; exact neq_t np
    rw [e, Gd_t]
    unfold Gt
    cases gth os r with
    | none => with_unfolding_all rfl
    | some p =>
      obtain ⟨a, r'⟩ := p
      unfold atG FOk
      dsimp only
      cases f (a.map (·.1) ++ dflS dfl) S <;> with_unfolding_all rfl
  · rw [if_neg h]
    have e : neq (os.length + dfl.length) np = false := by
      unfold neq
      exact beq_eq_false_iff_ne.mpr h
    rw [e]
    exact propext ⟨fun q => q.elim, fun q => nomatch q.1⟩
theorem fill_0 (outs r : List (Option Slot)) : fill [] outs r = r := by with_unfolding_all rfl
theorem fill_n (a : Slot) (as : Args) (o : Option Slot) (os r : List (Option Slot)) : fill ((a, none) :: as) (o :: os) r = fill as os r := by with_unfolding_all rfl
theorem fill_s (a : Slot) (as : Args) (i : Nat) (p q : Bool) (d : D) (k : Nat) (os r : List (Option Slot)) : fill ((a, some (i, p)) :: as) (some ⟨d, k, q⟩ :: os) r = fill as os (r.set i (some ⟨d, k, p⟩)) := by with_unfolding_all rfl
theorem dfl_0 : dflS [] = [] := by with_unfolding_all rfl
theorem dfl_c (d : D) (ds : List D) : dflS (d :: ds) = ⟨d, 0, false⟩ :: dflS ds := by with_unfolding_all rfl
def cvO (tab : List (Str × Nat × Fn)) (ms : M (List Op)) (d : D) : M Op := match d with
  | .glb y => match tab.lookup y with
    | some (np, fn) => callM fn np [] ms
    | none => stuck
  | _ => stuck
theorem w_callV (tab : List (Str × Nat × Fn)) (m : M Op) (ms : M (List Op)) (Q : Op → Sx → Prop) : Wp (callV tab m ms) s Q = Wp m s (fun o s1 => Wp (flat o) s1 fun d s2 => Wp (cvO tab ms d) s2 Q) := by
  unfold callV
  rw [w_bnd]
  refine wp_cg fun o s1 => ?_
  rw [w_bnd]
  exact wp_cg fun d s2 => by with_unfolding_all rfl
theorem w_callK (fn : Fn) (np n nk : Nat) (code : List Nat) (dfl : List D) (ms mk : M (List Op)) (Q : Op → Sx → Prop) : Wp (callK fn np n nk code dfl ms mk) s Q = Wp ms s (fun os s1 => Wp mk s1 fun zs s2 => Gd (neq os.length n && neq zs.length nk) (Wp (callO fn np [] (pickL code (os ++ (zs ++ dfl.map fun d => Op.val d 0)))) s2 Q)) := by
  unfold callK
  rw [w_bnd]
  refine wp_cg fun os s1 => ?_
  rw [w_bnd]
  refine wp_cg fun zs s2 => ?_
  rw [w_ite]
  by_cases h : os.length = n ∧ zs.length = nk
  · rw [decide_eq_true h, h.1, h.2, neq_t, neq_t]
    exact (Gd_t _).symm
  · rw [decide_eq_false h]
    refine propext ⟨fun q => (w_no q).elim, fun q => (h ?_).elim⟩
    have := q.1
    unfold neq at this
    simpa using this
theorem pickL_0 {α : Type} (l : List α) : pickL [] l = [] := by with_unfolding_all rfl
theorem pickL_c {α : Type} (i : Nat) (is : List Nat) (a : α) (l : List α) (h : l[i]? = some a) : pickL (i :: is) l = a :: pickL is (l.eraseIdx i) := by
  show (match l[i]? with
    | some a => a :: pickL is (l.eraseIdx i)
    | none => []) = _
  rw [h]

/-! ### bodies -/
def Fin (args : List Slot) (Q : D → Nat → List (Option Slot) → List Inst → Prop) (f : Flow) (s : Sx) (t : Tk Q := Unit.unit) : Prop := match f with
  | .rt d k => Gd (pinsOk args (s.r.take args.length)) (Q d k (s.r.take args.length) s.S)
  | .nx => Gd (pinsOk args (s.r.take args.length)) (Q .non 0 (s.r.take args.length) s.S)
  | _ => False
theorem f_fn (n : Nat) (body : M Flow) (args : List Slot) (Q : D → Nat → List (Option Slot) → List Inst → Prop) : FOk (mkFn n body) args S Q = Wp body ⟨args.map some ++ List.replicate (n - args.length) none, S⟩ (fun f s => Fin args Q f s) := by
  unfold FOk Wp
  rw [e_fn]
  cases body ⟨args.map some ++ List.replicate (n - args.length) none, S⟩ with
  | ok f s' =>
    cases f with
    | rt d k =>
      dsimp only [Wr, Fin]
      by_cases h : pinsOk args (s'.r.take args.length) = true
      · rw [if_pos h, h, Gd_t]
      · rw [if_neg h]
        exact propext ⟨fun q => q.elim, fun q => h q.1⟩
    | nx =>
      dsimp only [Wr, Fin]
      by_cases h : pinsOk args (s'.r.take args.length) = true
      · rw [if_pos h, h, Gd_t]
      · rw [if_neg h]
        exact propext ⟨fun q => q.elim, fun q => h q.1⟩
    | bk => with_unfolding_all rfl
    | ct => with_unfolding_all rfl
  | ex x s' =>
    dsimp only [Wr]
    split
    · rename_i e
      split at e <;> cases e
    · rfl
  | no => with_unfolding_all rfl
theorem fin_rt (args : List Slot) (Q : D → Nat → List (Option Slot) → List Inst → Prop) : Fin args Q (.rt d k) ⟨r, S⟩ = Gd (pinsOk args (r.take args.length)) (Q d k (r.take args.length) S) := by with_unfolding_all rfl
theorem fin_nx (args : List Slot) (Q : D → Nat → List (Option Slot) → List Inst → Prop) : Fin args Q .nx ⟨r, S⟩ = Gd (pinsOk args (r.take args.length)) (Q .non 0 (r.take args.length) S) := by with_unfolding_all rfl
theorem pins_0 (os : List (Option Slot)) : pinsOk [] os = true := by with_unfolding_all rfl
theorem pins_n (d : D) (k : Nat) (as : List Slot) (o : Option Slot) (os : List (Option Slot)) : pinsOk (⟨d, k, false⟩ :: as) (o :: os) = pinsOk as os := by with_unfolding_all rfl
theorem pins_t (d d' : D) (k k' : Nat) (as : List Slot) (os : List (Option Slot)) : pinsOk (⟨d, k, true⟩ :: as) (some ⟨d', k', true⟩ :: os) = pinsOk as os := by
  show (_ && pinsOk as os) = _
  with_unfolding_all rfl

/-! ### sources, slices, methods -/
theorem w_src (m : M Op) (Q : Src → Sx → Prop) : Wp (srcM m) s Q = Wp m s (fun o s1 => Wp (srcOf o) s1 Q) := by
  unfold srcM
  rw [w_bnd]
/-- what the items of what stands in a slot are -/
def srS (i : Nat) (sl : Slot) (r : List (Option Slot)) (S : List Inst) (Q : Src → Sx → Prop) (t : Tk Q := Unit.unit) : Prop := match sl with
  | ⟨.lst ds, 0, _⟩ => Q (.fix ds) ⟨r, S⟩
  | ⟨.lst _, 1, _⟩ => Q (.bor i fun _ d => d) ⟨r, S⟩
  | ⟨.lst _, _, _⟩ => False
  | ⟨.dct kvs, 0, _⟩ => Q (.fix (keysD kvs)) ⟨r, S⟩
  | ⟨.dct kvs, 1, p⟩ => Q (.fix (keysD kvs)) ⟨r.set i (some ⟨.dct kvs, 0, p⟩), S⟩
  | ⟨.dct _, _, _⟩ => False
  | ⟨d, _, _⟩ => atO (itD d) fun ds => Q (.fix ds) ⟨r, S⟩
theorem w_srS (Q : Src → Sx → Prop) : Wp (srcOf (.slot i)) ⟨r, S⟩ Q = atS r[i]? (fun sl => srS i sl r S Q) := by
  unfold Wp srcOf
  dsimp only
  cases r[i]? with
  | none => with_unfolding_all rfl
  | some o => cases o with
    | none => with_unfolding_all rfl
    | some sl =>
      obtain ⟨d, k, p⟩ := sl
      cases d <;> first | with_unfolding_all rfl | (cases k with
        | zero => with_unfolding_all rfl
        | succ k => cases k <;> rfl)
theorem srS_l0 (ds : List D) (p : Bool) (Q : Src → Sx → Prop) : srS i ⟨.lst ds, 0, p⟩ r S Q = Q (.fix ds) ⟨r, S⟩ := by with_unfolding_all rfl
theorem srS_l1 (ds : List D) (p : Bool) (Q : Src → Sx → Prop) : srS i ⟨.lst ds, 1, p⟩ r S Q = Q (.bor i fun _ d => d) ⟨r, S⟩ := by with_unfolding_all rfl
theorem srS_t (ds : List D) (p : Bool) (Q : Src → Sx → Prop) : srS i ⟨.tup ds, k, p⟩ r S Q = Q (.fix ds) ⟨r, S⟩ := by with_unfolding_all rfl
theorem srS_c (ds : List D) (p : Bool) (Q : Src → Sx → Prop) : srS i ⟨.scr ds, k, p⟩ r S Q = Q (.fix ds) ⟨r, S⟩ := by with_unfolding_all rfl
theorem srS_s (z : Str) (p : Bool) (Q : Src → Sx → Prop) : srS i ⟨.str z, k, p⟩ r S Q = Q (.fix (sgns z)) ⟨r, S⟩ := by with_unfolding_all rfl
theorem srS_d0 (kvs : List (Key × D)) (p : Bool) (Q : Src → Sx → Prop) : srS i ⟨.dct kvs, 0, p⟩ r S Q = Q (.fix (keysD kvs)) ⟨r, S⟩ := by with_unfolding_all rfl
theorem srS_d1 (kvs : List (Key × D)) (p : Bool) (Q : Src → Sx → Prop) : srS i ⟨.dct kvs, 1, p⟩ r S Q = Q (.fix (keysD kvs)) ⟨r.set i (some ⟨.dct kvs, 0, p⟩), S⟩ := by with_unfolding_all rfl
theorem srV_l0 (ds : List D) (Q : Src → Sx → Prop) : Wp (srcOf (.val (.lst ds) 0)) s Q = Q (.fix ds) s := by with_unfolding_all rfl
theorem srV_l (ds : List D) (Q : Src → Sx → Prop) : Wp (srcOf (.val (.lst ds) (k + 1))) s Q = Gd (ds.all (fzOk k)) (Q (.fix ds) s) := by
  unfold Wp srcOf
  dsimp only
  by_cases h : ds.all (fzOk k) = true
  · rw [if_pos h, h, Gd_t]
    with_unfolding_all rfl
  · rw [if_neg h]
    exact propext ⟨fun q => q.elim, fun q => h q.1⟩
theorem srV_l1 (ds : List D) (Q : Src → Sx → Prop) : Wp (srcOf (.val (.lst ds) 1)) s Q = Q (.fix ds) s := by
  rw [srV_l, fz_all, Gd_t]
theorem srV_t (ds : List D) (Q : Src → Sx → Prop) : Wp (srcOf (.val (.tup ds) k)) s Q = Q (.fix ds) s := by with_unfolding_all rfl
theorem srV_c (ds : List D) (Q : Src → Sx → Prop) : Wp (srcOf (.val (.scr ds) k)) s Q = Q (.fix ds) s := by with_unfolding_all rfl
theorem srV_s (z : Str) (Q : Src → Sx → Prop) : Wp (srcOf (.val (.str z) k)) s Q = Q (.fix (sgns z)) s := by with_unfolding_all rfl
theorem srV_d (kvs : List (Key × D)) (Q : Src → Sx → Prop) : Wp (srcOf (.val (.dct kvs) 1)) s Q = Q (.fix (keysD kvs)) s := by with_unfolding_all rfl
def r1F (ds : List D) : Option (List D) := match ds with
  | [.int j] => if in62 j then some (rngD 0 j.toNat) else none
  | _ => none
theorem w_rng1 (ms : M (List Op)) (Q : Src → Sx → Prop) : Wp (rng1 ms) s Q = Wp ms s (fun os s1 => Wp (flats os) s1 fun ds s2 => atO (r1F ds) fun es => Q (.fix es) s2) := by
  unfold rng1
  rw [w_bnd]
  refine wp_cg fun os s1 => ?_
  rw [w_bnd]
  refine wp_cg fun ds s2 => ?_
  cases ds with
  | nil => with_unfolding_all rfl
  | cons d t =>
    cases d <;> cases t <;> first | with_unfolding_all rfl | skip
    rename_i j
    show Wp (if in62 j = true then ret (Src.fix (rngD 0 j.toNat)) else stuck) s2 Q = atO (if in62 j = true then some (rngD 0 j.toNat) else none) _
    by_cases h : in62 j = true
    · rw [if_pos h, if_pos h]
      with_unfolding_all rfl
    · rw [if_neg h, if_neg h]
      with_unfolding_all rfl
theorem r1_of {n : Nat} (h : n < 1000000000) : r1F [.int (n : Int)] = some (rngD 0 n) := by
  show (if in62 (n : Int) then some (rngD 0 (n : Int).toNat) else none) = _
  rw [if_pos (by unfold in62; simp only [Bool.and_eq_true, decide_eq_true_eq]; omega)]
  with_unfolding_all rfl
def enF : D → Nat → Option (List D)
  | .lst ds, 0 => some (enumD 0 ds)
  | .lst ds, k + 1 => if ds.all (fzOk k) then some (enumD 0 ds) else none
  | .tup ds, _ => some (enumD 0 ds)
  | .str z, _ => some (enumD 0 (sgns z))
  | .scr ds, _ => some (enumD 0 ds)
  | _, _ => none
def on1 (os : List Op) : Option Op := match os with
  | [o] => some o
  | _ => none
theorem on1_c (o : Op) : on1 [o] = some o := by with_unfolding_all rfl
theorem w_en (ms : M (List Op)) (Q : Src → Sx → Prop) : Wp (enumM ms) s Q = Wp ms s (fun os s1 => atO (on1 os) fun o => Wp (enumOf o) s1 Q) := by
  unfold enumM
  rw [w_bnd]
  refine wp_cg fun os s1 => ?_
  match os with
  | [] => with_unfolding_all rfl
  | [_] => with_unfolding_all rfl
  | _ :: _ :: _ => with_unfolding_all rfl
theorem w_enV (Q : Src → Sx → Prop) : Wp (enumOf (.val d k)) s Q = atO (enF d k) fun es => Q (.fix es) s := by
  unfold Wp enumOf enF
  cases d <;> first | with_unfolding_all rfl | (cases k with
    | zero => with_unfolding_all rfl
    | succ k =>
      dsimp only
      split <;> rfl)
def enS (i : Nat) (sl : Slot) (r : List (Option Slot)) (S : List Inst) (Q : Src → Sx → Prop) (t : Tk Q := Unit.unit) : Prop := match sl with
  | ⟨.lst ds, 0, _⟩ => Q (.fix (enumD 0 ds)) ⟨r, S⟩
  | ⟨.lst _, 1, _⟩ => Q (.bor i fun j d => .tup [.int (j : Nat), d]) ⟨r, S⟩
  | ⟨.tup ds, _, _⟩ => Q (.fix (enumD 0 ds)) ⟨r, S⟩
  | ⟨.str z, _, _⟩ => Q (.fix (enumD 0 (sgns z))) ⟨r, S⟩
  | ⟨.scr ds, _, _⟩ => Q (.fix (enumD 0 ds)) ⟨r, S⟩
  | _ => False
theorem w_enS (Q : Src → Sx → Prop) : Wp (enumOf (.slot i)) ⟨r, S⟩ Q = atS r[i]? (fun sl => enS i sl r S Q) := by
  unfold Wp enumOf
  dsimp only
  cases r[i]? with
  | none => with_unfolding_all rfl
  | some o => cases o with
    | none => with_unfolding_all rfl
    | some sl =>
      obtain ⟨d, k, p⟩ := sl
      cases d <;> first | with_unfolding_all rfl | (cases k with
        | zero => with_unfolding_all rfl
        | succ k => cases k <;> rfl)
theorem enS_t (ds : List D) (p : Bool) (Q : Src → Sx → Prop) : enS i ⟨.tup ds, k, p⟩ r S Q = Q (.fix (enumD 0 ds)) ⟨r, S⟩ := by cases k <;> with_unfolding_all rfl
theorem enS_s (z : Str) (p : Bool) (Q : Src → Sx → Prop) : enS i ⟨.str z, k, p⟩ r S Q = Q (.fix (enumD 0 (sgns z))) ⟨r, S⟩ := by cases k <;> with_unfolding_all rfl
theorem enS_l0 (ds : List D) (p : Bool) (Q : Src → Sx → Prop) : enS i ⟨.lst ds, 0, p⟩ r S Q = Q (.fix (enumD 0 ds)) ⟨r, S⟩ := by with_unfolding_all rfl
theorem enS_l1 (ds : List D) (p : Bool) (Q : Src → Sx → Prop) : enS i ⟨.lst ds, 1, p⟩ r S Q = Q (.bor i fun j d => .tup [.int (j : Nat), d]) ⟨r, S⟩ := by with_unfolding_all rfl
def prF : D → Option (Option Int)
  | .int i => some (some i)
  | _ => none
theorem prF_i (i : Int) : prF (.int i) = some (some i) := by with_unfolding_all rfl
theorem w_prt (m : M Op) (Q : Option Int → Sx → Prop) : Wp (prtM m) s Q = Wp m s (fun o s1 => Wp (flat o) s1 fun d s2 => atO (prF d) fun x => Q x s2) := by
  unfold prtM
  rw [w_bnd]
  refine wp_cg fun o s1 => ?_
  rw [w_bnd]
  refine wp_cg fun d s2 => ?_
  cases d <;> with_unfolding_all rfl
theorem w_sl (m : M Op) (lo hi : M (Option Int)) (Q : Op → Sx → Prop) : Wp (slM m lo hi) s Q = Wp m s (fun o s1 => Wp lo s1 fun l s2 => Wp hi s2 fun h s3 => Wp (flat o) s3 fun d s4 => atO (slF d l h) fun r => Q (.val r.1 r.2) s4) := by
  unfold slM
  repeat first | (rw [w_bnd, w_opt]; refine ato_cg fun _ => ?_) | (rw [w_bnd]; refine wp_cg fun _ _ => ?_) | with_unfolding_all rfl
def sF : D → Option Str
  | .str z => some z
  | _ => none
theorem sF_s (z : Str) : sF (.str z) = some z := by with_unfolding_all rfl
theorem w_sm (f : Str → List D → Option (D × Nat)) (m : M Op) (ms : M (List Op)) (Q : Op → Sx → Prop) : Wp (smM f m ms) s Q = Wp m s (fun o s1 => Wp (flat o) s1 fun d s2 => atO (sF d) fun z => Wp ms s2 fun os s3 => Wp (flats os) s3 fun ds s4 => atO (f z ds) fun r => Q (.val r.1 r.2) s4) := by
  unfold smM
  rw [w_bnd]
  refine wp_cg fun o s1 => ?_
  rw [w_bnd]
  refine wp_cg fun d s2 => ?_
  cases d <;> first | with_unfolding_all rfl | skip
  show Wp (bnd ms _) s2 Q = Wp ms s2 _
  repeat first | (rw [w_bnd, w_opt]; refine ato_cg fun _ => ?_) | (rw [w_bnd]; refine wp_cg fun _ _ => ?_) | with_unfolding_all rfl
def lF : D → Option (List D)
  | .lst ds => some ds
  | _ => none
theorem lF_l (ds : List D) : lF (.lst ds) = some ds := by with_unfolding_all rfl
/-- a method of a list at a slot -/
def lmS (f : List D → List D → Option (List D × D)) (es : List D) (sl : Slot) : Option (Slot × D) := match sl with
  | ⟨.lst ds, 1, p⟩ => (f ds es).map fun q => (⟨.lst q.1, 1, p⟩, q.2)
  | _ => none
theorem lmS_l (f : List D → List D → Option (List D × D)) (es ds : List D) (p : Bool) : lmS f es ⟨.lst ds, 1, p⟩ = (f ds es).map fun q => (⟨.lst q.1, 1, p⟩, q.2) := by with_unfolding_all rfl
def lmO (f : List D → List D → Option (List D × D)) (i : Nat) (es : List D) : M Op := fun s => match s.r[i]? with
  | some (some ⟨.lst ds, 1, p⟩) => match f ds es with
    | some (ds', r) => .ok (.val r 0) { s with r := s.r.set i (some ⟨.lst ds', 1, p⟩) }
    | none => .no
  | _ => .no
def lmP (f : List D → List D → Option (List D × D)) (o : Op) (ms : M (List Op)) : M Op := match o with
  | .slot i => bnd (flat (.slot i)) fun d => match d with
    | .lst _ => bnd ms fun os => bnd (fzos os) fun es => lmO f i es
    | _ => stuck
  | _ => stuck
theorem w_lm (f : List D → List D → Option (List D × D)) (m : M Op) (ms : M (List Op)) (Q : Op → Sx → Prop) : Wp (lmM f m ms) s Q = Wp m s (fun o s1 => Wp (lmP f o ms) s1 Q) := by
  show Wp (bnd m _) s Q = _
  rw [w_bnd]
  refine wp_cg fun o s1 => ?_
  cases o <;> with_unfolding_all rfl
theorem w_lmP (f : List D → List D → Option (List D × D)) (ms : M (List Op)) (Q : Op → Sx → Prop) : Wp (lmP f (.slot i) ms) s Q = Wp (flat (.slot i)) s (fun d s2 => atO (lF d) fun _ => Wp ms s2 fun os s3 => Wp (fzos os) s3 fun es s4 => Wp (lmO f i es) s4 Q) := by
  show Wp (bnd (flat (.slot i)) _) s Q = _
  rw [w_bnd]
  refine wp_cg fun d s2 => ?_
  cases d <;> first | with_unfolding_all rfl | skip
  show Wp (bnd ms _) s2 Q = Wp ms s2 _
  repeat first | (rw [w_bnd]; refine wp_cg fun _ _ => ?_) | with_unfolding_all rfl | rw [w_bnd]
theorem w_lmO (f : List D → List D → Option (List D × D)) (es : List D) (Q : Op → Sx → Prop) : Wp (lmO f i es) ⟨r, S⟩ Q = atS r[i]? (fun sl => atO (lmS f es sl) fun q => Q (.val q.2 0) ⟨r.set i (some q.1), S⟩) := by
  unfold Wp lmO
  dsimp only
  cases r[i]? with
  | none => with_unfolding_all rfl
  | some o => cases o with
    | none => with_unfolding_all rfl
    | some sl =>
      obtain ⟨d, k, p⟩ := sl
      cases d with
      | lst ds =>
        cases k with
        | zero => with_unfolding_all rfl
        | succ k => cases k with
          | succ k => with_unfolding_all rfl
          | zero =>
            show Wr (match f ds es with
              | some (ds', r') => Rs.ok (Op.val r' 0) ⟨r.set i (some ⟨.lst ds', 1, p⟩), S⟩
              | none => Rs.no) Q = atO ((f ds es).map fun q => ((⟨.lst q.1, 1, p⟩, q.2) : Slot × D)) (fun q => Q (.val q.2 0) ⟨r.set i (some q.1), S⟩)
            cases f ds es <;> with_unfolding_all rfl
      | _ => with_unfolding_all rfl

/-! ### a, b = x, y; tuples' targets; dicts -/
def par2 (os : List Op) : Option (Op × Op) := match os with
  | [o1, o2] => some (o1, o2)
  | _ => none
theorem par2_c (o1 o2 : Op) : par2 [o1, o2] = some (o1, o2) := by with_unfolding_all rfl
theorem w_par (ms : M (List Op)) (Q : Flow → Sx → Prop) : Wp (parM i j ms) s Q = Wp ms s (fun os s1 => atO (par2 os) fun x => Wp (own x.1) s1 fun p s2 => Wp (own x.2) s2 fun q s3 => Wp (setM i p.1 p.2) s3 fun _ s4 => Wp (setM j q.1 q.2) s4 fun _ s5 => Q .nx s5) := by
  unfold parM
  rw [w_bnd]
  refine wp_cg fun os s1 => ?_
  match os with
  | [] => with_unfolding_all rfl
  | [_] => with_unfolding_all rfl
  | _ :: _ :: _ :: _ => with_unfolding_all rfl
  | [o1, o2] =>
    show Wp (bnd (own o1) _) s1 Q = Wp (own o1) s1 _
    repeat first | (rw [w_bnd]; refine wp_cg fun _ _ => ?_) | with_unfolding_all rfl
def tpF (n : Nat) : D → Nat → Option (List D)
  | .tup ds, _ => if ds.length = n then some ds else none
  | .lst ds, k => if ds.length = n ∧ k ≤ 1 then some ds else none
  | _, _ => none
theorem w_tupG (n : Nat) (g : List D → M Unit) (Q : Unit → Sx → Prop) : Wp (tupG n g d k) s Q = atO (tpF n d k) fun ds => Wp (g ds) s Q := by
  cases d <;> first | with_unfolding_all rfl | skip
  · rename_i ds
    show Wp (if ds.length = n then g ds else stuck) s Q = atO (if ds.length = n then some ds else none) _
    split <;> rename_i h
    · rw [if_pos h]
      with_unfolding_all rfl
    · rw [if_neg h]
      with_unfolding_all rfl
  · rename_i ds
    show Wp (if ds.length = n ∧ k ≤ 1 then g ds else stuck) s Q = atO (if ds.length = n ∧ k ≤ 1 then some ds else none) _
    split <;> rename_i h
    · rw [if_pos h]
      with_unfolding_all rfl
    · rw [if_neg h]
      with_unfolding_all rfl
theorem tpF_t {n : Nat} {ds : List D} (h : ds.length = n) : tpF n (.tup ds) k = some ds := if_pos h
theorem tpF_l {n : Nat} {ds : List D} (h : ds.length = n) : tpF n (.lst ds) 1 = some ds := if_pos ⟨h, Nat.le_refl 1⟩
theorem tpF_l0 {n : Nat} {ds : List D} (h : ds.length = n) : tpF n (.lst ds) 0 = some ds := if_pos ⟨h, Nat.zero_le 1⟩
theorem tpF_t1 (a : D) : tpF 1 (.tup [a]) k = some [a] := by with_unfolding_all rfl
theorem tpF_t2 (a b : D) : tpF 2 (.tup [a, b]) k = some [a, b] := by with_unfolding_all rfl
theorem tpF_t3 (a b c : D) : tpF 3 (.tup [a, b, c]) k = some [a, b, c] := by with_unfolding_all rfl
theorem tpF_t4 (a b c d : D) : tpF 4 (.tup [a, b, c, d]) k = some [a, b, c, d] := by with_unfolding_all rfl
theorem tpF_l2 (a b : D) : tpF 2 (.lst [a, b]) 1 = some [a, b] := by with_unfolding_all rfl
theorem tpF_l3 (a b c : D) : tpF 3 (.lst [a, b, c]) 1 = some [a, b, c] := by with_unfolding_all rfl
theorem w_setsN (Q : Unit → Sx → Prop) : Wp (setsN []) s Q = Q () s := by with_unfolding_all rfl
theorem w_setsC (f : D → Nat → M Unit) (g : List D → M Unit) (ds : List D) (Q : Unit → Sx → Prop) : Wp (setsC f g (d :: ds)) s Q = Wp (f d 0) s fun _ s1 => Wp (g ds) s1 Q := by
  show Wp (bnd (f d 0) _) s Q = _
  rw [w_bnd]
theorem w_prsN (Q : List (Key × D) → Sx → Prop) : Wp prsN s Q = Q [] s := by with_unfolding_all rfl
theorem w_prsC (mk mv : M Op) (m : M (List (Key × D))) (Q : List (Key × D) → Sx → Prop) : Wp (prsC mk mv m) s Q = Wp mk s (fun a s1 => Wp mv s1 fun b s2 => Wp (flat a) s2 fun kd s3 => atO (keyOf kd) fun k => Wp (fzo b) s3 fun d s4 => Wp m s4 fun t s5 => Q ((k, d) :: t) s5) := by
  unfold prsC
  repeat first | (rw [w_bnd, w_opt]; refine ato_cg fun _ => ?_) | (rw [w_bnd]; refine wp_cg fun _ _ => ?_) | with_unfolding_all rfl
theorem w_dct (ps : M (List (Key × D))) (Q : Op → Sx → Prop) : Wp (dctM ps) s Q = Wp ps s (fun kvs s1 => Gd (decide (kvs.length ≤ 15)) (Q (.val (.dct (mergeD [] kvs)) 1) s1)) := by
  unfold dctM
  rw [w_bnd]
  refine wp_cg fun kvs s1 => ?_
  rw [w_ite]
  by_cases h : kvs.length ≤ 15
  · rw [decide_eq_true h, Gd_t]
    with_unfolding_all rfl
  · rw [decide_eq_false h]
    exact propext ⟨fun q => (w_no q).elim, fun q => nomatch q.1⟩
def dF : D → Option (List (Key × D))
  | .dct kvs => some kvs
  | _ => none
theorem dF_d (kvs : List (Key × D)) : dF (.dct kvs) = some kvs := by with_unfolding_all rfl
theorem w_get (mo mk mx : M Op) (Q : Op → Sx → Prop) : Wp (getM mo mk mx) s Q = Wp mo s (fun o s1 => Wp (flat o) s1 fun d0 s2 => atO (dF d0) fun _ => Wp mk s2 fun a s3 => Wp mx s3 fun b s4 => Wp (flat o) s4 fun d s5 => Wp (flat a) s5 fun kd s6 => Wp (fzo b) s6 fun x s7 => atO (dF d) fun kvs => atO (keyOf kd) fun k => Q (.val ((getK kvs k).getD x) 0) s7) := by
  unfold getM
  rw [w_bnd]
  refine wp_cg fun o s1 => ?_
  rw [w_bnd]
  refine wp_cg fun d0 s2 => ?_
  cases d0 <;> first | with_unfolding_all rfl | skip
  show Wp (bnd mk _) s2 Q = Wp mk s2 _
  rw [w_bnd]
  refine wp_cg fun a s3 => ?_
  rw [w_bnd]
  refine wp_cg fun b s4 => ?_
  rw [w_bnd]
  refine wp_cg fun d s5 => ?_
  rw [w_bnd]
  refine wp_cg fun kd s6 => ?_
  rw [w_bnd]
  refine wp_cg fun x s7 => ?_
  cases d <;> first | with_unfolding_all rfl | skip
  show Wp (bnd (opt (keyOf kd)) _) s7 Q = _
  rw [w_bnd, w_opt]
  with_unfolding_all rfl

/-! ### loops -/
def forO (z : Src) (f : D → Nat → M Unit) (b : M Flow) : M Flow := match z with
  | .fix ds => forL f b ds
  | .bor i g => fun s => unpS s.r (forB f b i g (lenAt s i) (lenAt s i) (pinS i s))
theorem w_for (src : M Src) (f : D → Nat → M Unit) (b : M Flow) (Q : Flow → Sx → Prop) : Wp (forM src f b) s Q = Wp src s (fun z s1 => Wp (forO z f b) s1 Q) := by
  unfold forM
  rw [w_bnd]
  refine wp_cg fun z s1 => ?_
  cases z <;> with_unfolding_all rfl
/-- behind a turn's body -/
def Tn (I : Sx → Prop) (Q : Flow → Sx → Prop) (f : Flow) (s : Sx) (t : Tk (I, Q) := Unit.unit) : Prop := match f with
  | .nx => I s
  | .ct => I s
  | .bk => Q .nx s
  | .rt d k => Q (.rt d k) s
theorem tn_nx (I : Sx → Prop) (Q : Flow → Sx → Prop) : Tn I Q .nx s = I s := by with_unfolding_all rfl
theorem tn_ct (I : Sx → Prop) (Q : Flow → Sx → Prop) : Tn I Q .ct s = I s := by with_unfolding_all rfl
theorem tn_bk (I : Sx → Prop) (Q : Flow → Sx → Prop) : Tn I Q .bk s = Q .nx s := by with_unfolding_all rfl
theorem tn_rt (I : Sx → Prop) (Q : Flow → Sx → Prop) : Tn I Q (.rt d k) s = Q (.rt d k) s := by with_unfolding_all rfl
theorem w_turn (f : D → Nat → M Unit) (b go : M Flow) (Q : Flow → Sx → Prop) : Wp (turnM f b d go) s Q = Wp (f d 0) s fun _ s1 => Wp b s1 fun z s2 => Tn (fun s => Wp go s Q) Q z s2 := by
  unfold turnM
  rw [w_bnd]
  refine wp_cg fun _ s1 => ?_
  rw [w_bnd]
  refine wp_cg fun z s2 => ?_
  cases z <;> with_unfolding_all rfl
/-- a loop over what is fixed: I is of what is still to come -/
theorem wp_for {f : D → Nat → M Unit} {b : M Flow} {Q : Flow → Sx → Prop} (I : List D → Sx → Prop) : ∀ {ds : List D} {s : Sx}, I ds s →
    (∀ d rest s, I (d :: rest) s → Wp (f d 0) s fun _ s1 => Wp b s1 fun z s2 => Tn (I rest) Q z s2) → (∀ s, I [] s → Q .nx s) → Wp (forO (.fix ds) f b) s Q
  | [], s, h0, _, he => by with_unfolding_all exact he s h0
  | d :: ds, s, h0, hs, he => by
    show Wp (turnM f b d (forL f b ds)) s Q
    rw [w_turn]
    refine (hs d ds s h0).mono fun _ s1 h1 => h1.mono fun z s2 h2 => ?_
    cases z
    · exact wp_for I h2 hs he
    · with_unfolding_all exact h2
    · exact wp_for I h2 hs he
    · with_unfolding_all exact h2
/-- the same, with the items told: I is of how many are done -/
theorem wp_while {n : Nat} {c : M Bool} {b : M Flow} {Q : Flow → Sx → Prop} (I : Nat → Sx → Prop)
    (hs : ∀ μ s, I μ s → Wp c s fun k s1 => Bt k (Wp b s1 fun z s2 => Tn (fun s => ∃ μ', μ' < μ ∧ I μ' s) Q z s2) (Q .nx s1)) : ∀ {μ : Nat} {s : Sx}, I μ s → μ < n → Wp (whileM n c b) s Q := by
  induction n with
  | zero => exact fun _ h => absurd h (Nat.not_lt_zero _)
  | succ n ih =>
    intro μ s h0 hl
    show Wp (bnd c _) s Q
    rw [w_bnd]
    refine (hs μ s h0).mono fun k s1 h1 => ?_
    cases k with
    | false => with_unfolding_all exact h1
    | true =>
      show Wp (bnd b _) s1 Q
      rw [w_bnd]
      refine Wp.mono h1 fun z s2 h2 => ?_
      cases z with
      | nx =>
        obtain ⟨μ', h3, h4⟩ := h2
        exact ih h4 (by omega)
      | ct =>
        obtain ⟨μ', h3, h4⟩ := h2
        exact ih h4 (by omega)
      | bk => with_unfolding_all exact h2
      | rt d k => with_unfolding_all exact h2
end
end Mi

set_option Elab.async false
set_option linter.all false
set_option maxRecDepth 100000
set_option maxHeartbeats 4000000
namespace Mi
open PySem L2

/-! ### comprehensions, and loops over what stands in a slot -/
def lcO (z : Src) (f : D → Nat → M Unit) (c : M Bool) (e : M Op) (vs : List Nat) : M Op := lcM (ret z) f c e vs
section
variable {s s' : Sx} {d : D} {k i j : Nat} {r : List (Option Slot)} {S : List Inst}
theorem w_lc (src : M Src) (f : D → Nat → M Unit) (c : M Bool) (e : M Op) (vs : List Nat) (Q : Op → Sx → Prop) : Wp (lcM src f c e vs) s Q = Wp src s (fun z s1 => Wp (lcO z f c e vs) s1 Q) := by
  unfold lcO lcM
  rw [w_bnd]
  refine wp_cg fun z s1 => ?_
  rw [w_bnd, w_ret]
theorem w_step (f : D → Nat → M Unit) (c : M Bool) (e : M Op) (Q : Option D → Sx → Prop) : Wp (stepM f c e d) s Q = Wp (f d 0) s (fun _ s1 => Wp c s1 fun b s2 => Bt b (Wp e s2 fun o s3 => Wp (fzo o) s3 fun x s4 => Q (some x) s4) (Q none s2)) := by
  unfold stepM
  rw [w_bnd]
  refine wp_cg fun _ s1 => ?_
  rw [w_bnd]
  refine wp_cg fun b s2 => ?_
  cases b with
  | false => with_unfolding_all rfl
  | true =>
    show Wp (bnd e _) s2 Q = Wp e s2 _
    rw [w_bnd]
    refine wp_cg fun o s3 => ?_
    rw [w_bnd]
    with_unfolding_all rfl
/-- I is of what is still to come and of what is found -/
theorem wp_lc {f : D → Nat → M Unit} {c : M Bool} {e : M Op} {vs : List Nat} {ds : List D} {Q : Op → Sx → Prop} (I : List D → List D → Sx → Prop) (hl : ds.length ≤ cap) (ho : okOwn r vs = true) (h0 : I ds [] ⟨wipeR r vs, S⟩)
    (hs : ∀ d rest acc s, I (d :: rest) acc s → Wp (stepM f c e d) s fun x s1 => I rest (acc ++ x.toList) ⟨wipeR s1.r vs, s1.S⟩) (he : ∀ acc s, I [] acc s → Q (.val (.lst acc) 1) ⟨backR r s.r vs, s.S⟩) : Wp (lcO (.fix ds) f c e vs) ⟨r, S⟩ Q := by
  obtain ⟨acc, s', h1, h2⟩ := lcG_ok (ds := ds) (step := stepM f c e) (vs := vs) (s := ⟨wipeR r vs, S⟩) (fun i acc s => I (ds.drop i) acc s) hl (fun i d s acc hd hI _ => by
    have hlt : i < ds.length := (List.getElem?_eq_some_iff.mp hd).1
    have e1 : ds.drop i = d :: ds.drop (i + 1) := by
      rw [List.drop_eq_getElem_cons hlt, (List.getElem?_eq_some_iff.mp hd).2]
    rw [e1] at hI
    obtain ⟨x, s1, e2, h2⟩ := wp_ex (hs d _ acc s hI)
    exact ⟨x, s1, e2, h2⟩) (by exact h0)
  have h3 : lcM (ret (.fix ds)) f c e vs ⟨r, S⟩ = _ := e_lc rfl ho
  refine wp_of (s' := ⟨backR r s'.r vs, s'.S⟩) (a := .val (.lst acc) 1) ?_ (he acc s' (by
    rw [List.drop_length] at h2
    exact h2))
  show lcM (ret (.fix ds)) f c e vs ⟨r, S⟩ = _
  rw [h3, h1]
/-- each item's value is told by g; the rest stays -/
theorem wp_lcg {f : D → Nat → M Unit} {c : M Bool} {e : M Op} {vs : List Nat} {ds : List D} {Q : Op → Sx → Prop} (g : D → Option D) (hl : ds.length ≤ cap) (ho : okOwn r vs = true)
    (hs : ∀ d, d ∈ ds → Wp (stepM f c e d) ⟨wipeR r vs, S⟩ fun x s1 => x = g d ∧ wipeR s1.r vs = wipeR r vs ∧ s1.S = S) (he : Q (.val (.lst (ds.filterMap g)) 1) ⟨backR r (wipeR r vs) vs, S⟩) : Wp (lcO (.fix ds) f c e vs) ⟨r, S⟩ Q := by
  refine wp_lc (fun rest acc s => s = ⟨wipeR r vs, S⟩ ∧ ∃ done, ds = done ++ rest ∧ acc = done.filterMap g) hl ho ⟨rfl, [], rfl, rfl⟩ (fun d rest acc s hI => ?_) (fun acc s hI => ?_)
  · obtain ⟨rfl, done, e1, rfl⟩ := hI
    refine (hs d (by rw [e1]; simp)).mono fun x s1 h => ?_
    obtain ⟨rfl, h2, h3⟩ := h
    refine ⟨by rw [h2, h3], done ++ [d], by simp [e1], ?_⟩
    rw [List.filterMap_append]
    cases h : g d <;> simp [h]
  · obtain ⟨rfl, done, e1, rfl⟩ := hI
    rw [List.append_nil] at e1
    subst e1
    exact he
theorem wp_lcm {f : D → Nat → M Unit} {e : M Op} {vs : List Nat} {ds : List D} {Q : Op → Sx → Prop} (g : D → D) (hl : ds.length ≤ cap) (ho : okOwn r vs = true)
    (hs : ∀ d, d ∈ ds → Wp (stepM f (ret true) e d) ⟨wipeR r vs, S⟩ fun x s1 => x = some (g d) ∧ wipeR s1.r vs = wipeR r vs ∧ s1.S = S) (he : Q (.val (.lst (ds.map g)) 1) ⟨backR r (wipeR r vs) vs, S⟩) : Wp (lcO (.fix ds) f (ret true) e vs) ⟨r, S⟩ Q := by
  refine wp_lcg (fun d => some (g d)) hl ho hs ?_
  have e1 : ds.filterMap (fun d => some (g d)) = ds.map g := by
    have := List.filterMap_eq_map (f := g)
    rw [← this]
    with_unfolding_all rfl
  rw [e1]
  exact he

/-! over the list at a slot -/
theorem lstAt_at {c : Bool} {ds : List D} {p : Bool} (h : s.r[i]? = some (some ⟨.lst ds, 1, p⟩)) (hc : c = true → p = true) : lstAt c i ds.length s = .ok ds s := by
  unfold lstAt
  rw [h]
  exact if_pos ⟨rfl, hc⟩
theorem forB_eq {f : D → Nat → M Unit} {b : M Flow} {i : Nat} {g : Nat → D → D} {Q : Flow → Sx → Prop} {ds : List D} (I : Nat → Sx → Prop) (hI : ∀ n s, I n s → s.r[i]? = some (some ⟨.lst ds, 1, true⟩))
    (hs : ∀ n d s, ds[n]? = some d → I n s → Wp (f (g n d) 0) s fun _ s1 => Wp b s1 fun z s2 => Tn (I (n + 1)) (fun z s => Q z s) z s2)
    (he : ∀ s, I ds.length s → Q .nx s) : ∀ (m n : Nat) (s : Sx), n + m = ds.length → I n s → Wp (forB f b i g ds.length m) s Q := by
  intro m
  induction m with
  | zero =>
    intro n s h h0
    have e : n = ds.length := by omega
    subst e
    show Wp (bnd (lstAt true i ds.length) _) s Q
    refine wp_of (s' := s) (a := Flow.nx) ?_ (he s h0)
    unfold bnd
    rw [lstAt_at (hI _ s h0) fun _ => rfl]
    with_unfolding_all rfl
  | succ m ih =>
    intro n s h h0
    have hlt : n < ds.length := by omega
    show Wp (bnd (lstAt true i ds.length) _) s Q
    have e : bnd (lstAt true i ds.length) (fun ds' => bnd (opt ds'[ds.length - (m + 1)]?) fun d => turnM f b (g (ds.length - (m + 1)) d) (forB f b i g ds.length m)) s = turnM f b (g n ds[n]) (forB f b i g ds.length m) s := by
      unfold bnd
      rw [lstAt_at (hI _ s h0) fun _ => rfl]
      dsimp only
      rw [show ds.length - (m + 1) = n by omega, List.getElem?_eq_getElem hlt]
      with_unfolding_all rfl
    have e2 : Wp (bnd (lstAt true i ds.length) (fun ds' => bnd (opt ds'[ds.length - (m + 1)]?) fun d => turnM f b (g (ds.length - (m + 1)) d) (forB f b i g ds.length m))) s Q = Wp (turnM f b (g n ds[n]) (forB f b i g ds.length m)) s Q := by
      unfold Wp
      rw [e]
    refine e2.mpr ?_
    rw [w_turn]
    refine (hs n ds[n] s (List.getElem?_eq_getElem hlt) h0).mono fun _ s1 h1 => h1.mono fun z s2 h2 => ?_
    cases z
    · exact ih (n + 1) s2 (by omega) h2
    · exact h2
    · exact ih (n + 1) s2 (by omega) h2
    · exact h2
theorem wp_forB {f : D → Nat → M Unit} {b : M Flow} {i : Nat} {g : Nat → D → D} {Q : Flow → Sx → Prop} {ds : List D} {p : Bool} (hr : r[i]? = some (some ⟨.lst ds, 1, p⟩)) (I : Nat → Sx → Prop) (hI : ∀ n s, I n s → s.r[i]? = some (some ⟨.lst ds, 1, true⟩))
    (h0 : I 0 ⟨r.set i (some ⟨.lst ds, 1, true⟩), S⟩)
    (hs : ∀ n d s, ds[n]? = some d → I n s → Wp (f (g n d) 0) s fun _ s1 => Wp b s1 fun z s2 => Tn (I (n + 1)) (fun z s => Q z ⟨unp r s.r, s.S⟩) z s2)
    (he : ∀ s, I ds.length s → Q .nx ⟨unp r s.r, s.S⟩) : Wp (forO (.bor i g) f b) ⟨r, S⟩ Q := by
  have h1 : lenAt ⟨r, S⟩ i = ds.length := by
    unfold lenAt
    dsimp only
    rw [hr]
  have h2 : pinS i ⟨r, S⟩ = ⟨r.set i (some ⟨.lst ds, 1, true⟩), S⟩ := by
    unfold pinS
    dsimp only
    rw [hr]
  unfold Wp
  show Wr (unpS r (forB f b i g (lenAt ⟨r, S⟩ i) (lenAt ⟨r, S⟩ i) (pinS i ⟨r, S⟩))) Q
  rw [h1, h2]
  obtain ⟨z, s', e, q⟩ := wp_ex (forB_eq (Q := fun z s => Q z ⟨unp r s.r, s.S⟩) I hI hs he ds.length 0 _ (by omega) h0)
  rw [e]
  exact q
theorem unp_0 (r : List (Option Slot)) : unp r [] = [] := by cases r <;> with_unfolding_all rfl
theorem unp_c (a b : Option Slot) (r t : List (Option Slot)) : unp (a :: r) (b :: t) = (b.map fun y => (⟨y.d, y.k, y.pin && pinned a⟩ : Slot)) :: unp r t := by
  cases b with
  | none => with_unfolding_all rfl
  | some y =>
    cases a <;> with_unfolding_all rfl
/-- a comprehension over the list at a slot: each item's value is told by h -/
theorem wp_lcB {f : D → Nat → M Unit} {c : M Bool} {e : M Op} {vs : List Nat} {ds : List D} {p : Bool} {g : Nat → D → D} {Q : Op → Sx → Prop} (hr : r[i]? = some (some ⟨.lst ds, 1, p⟩)) (hv : i ∉ vs) (I : Nat → List D → Sx → Prop) (hl : ds.length ≤ cap) (ho : okOwn r vs = true)
    (hI : ∀ n acc s, I n acc s → s.r[i]? = some (some ⟨.lst ds, 1, p⟩)) (h0 : I 0 [] ⟨wipeR r vs, S⟩)
    (hs : ∀ n d acc s, ds[n]? = some d → I n acc s → Wp (stepM f c e (g n d)) s fun x s1 => I (n + 1) (acc ++ x.toList) ⟨wipeR s1.r vs, s1.S⟩) (he : ∀ acc s, I ds.length acc s → Q (.val (.lst acc) 1) ⟨backR r s.r vs, s.S⟩) : Wp (lcO (.bor i g) f c e vs) ⟨r, S⟩ Q := by
  have hla : ∀ n acc s, I n acc s → lstAt false i ds.length s = .ok ds s := by
    intro n acc s h
    exact lstAt_at (hI n acc s h) fun z => nomatch z
  have key : ∀ (m n : Nat) (acc : List D) (s : Sx), n + m = ds.length → acc.length ≤ n → I n acc s → ∃ acc' s', lcG (fun j => bnd (lstAt false i ds.length) fun ds => bnd (opt ds[j]?) fun d => ret (g j d)) (bnd (lstAt false i ds.length) fun _ => ret ()) (stepM f c e) vs ds.length m acc s = .ok acc' s' ∧ I ds.length acc' s' := by
    intro m
    induction m with
    | zero =>
      intro n acc s h ha h0
      have e1 : n = ds.length := by omega
      subst e1
      refine ⟨acc, s, ?_, h0⟩
      unfold lcG
      unfold bnd
      rw [hla _ _ _ h0]
      with_unfolding_all rfl
    | succ m ih =>
      intro n acc s h ha h0
      have hlt : n < ds.length := by omega
      obtain ⟨x, s1, h1, h2⟩ := wp_ex (hs n ds[n] acc s (List.getElem?_eq_getElem hlt) h0)
      obtain ⟨acc', s', h3, h4⟩ := ih (n + 1) (acc ++ x.toList) _ (by omega) (by
        rw [List.length_append]
        cases x <;> simp <;> omega) h2
      refine ⟨acc', s', ?_, h4⟩
      unfold lcG
      unfold bnd
      rw [hla _ _ _ h0]
      dsimp only
      rw [show ds.length - (m + 1) = n by omega, List.getElem?_eq_getElem hlt]
      show (match stepM f c e (g n ds[n]) s with
        | .ok x s1 => if acc.length < cap then lcG _ _ (stepM f c e) vs ds.length m (acc ++ x.toList) { s1 with r := wipeR s1.r vs } else .no
        | _ => .no) = _
      rw [h1]
      dsimp only
      rw [if_pos (by omega)]
      exact h3
  obtain ⟨acc, s', h1, h2⟩ := key ds.length 0 [] ⟨wipeR r vs, S⟩ (by omega) (Nat.le_refl 0) h0
  refine wp_of (s' := ⟨backR r s'.r vs, s'.S⟩) (a := .val (.lst acc) 1) ?_ (he acc s' h2)
  have h3 : lenAt ⟨r, S⟩ i = ds.length := by
    unfold lenAt
    dsimp only
    rw [hr]
  show (if okOwn r vs && decide (i ∉ vs) then
    match lcG (fun j => bnd (lstAt false i (lenAt ⟨r, S⟩ i)) fun ds => bnd (opt ds[j]?) fun d => ret (g j d)) (bnd (lstAt false i (lenAt ⟨r, S⟩ i)) fun _ => ret ()) (stepM f c e) vs (lenAt ⟨r, S⟩ i) (lenAt ⟨r, S⟩ i) [] ⟨wipeR r vs, S⟩ with
      | .ok acc s' => .ok (.val (.lst acc) 1) { s' with r := backR r s'.r vs }
      | _ => .no
    else .no : Rs Op) = _
  rw [ho, decide_eq_true hv, h3, h1]
  with_unfolding_all rfl
/-- wiped slots -/
theorem wipe_0 (r : List (Option Slot)) : wipeR r [] = r := by with_unfolding_all rfl
theorem wipe_c (r : List (Option Slot)) (v : Nat) (vs : List Nat) : wipeR r (v :: vs) = (wipeR r vs).set v none := by with_unfolding_all rfl
theorem back_0 (r0 r : List (Option Slot)) : backR r0 r [] = r := by with_unfolding_all rfl
theorem back_c (r0 r : List (Option Slot)) (v : Nat) (vs : List Nat) : backR r0 r (v :: vs) = backR r0 (r.set v (r0.getD v none)) vs := by with_unfolding_all rfl
end
end Mi

set_option Elab.async false
set_option linter.all false
set_option maxRecDepth 100000
set_option maxHeartbeats 4000000
namespace Mi
open PySem L2

/-! ### facts of data -/
theorem leC_k0 : leC 0 = true := rfl
theorem leC_k1 : leC 1 = true := rfl
theorem leC_k2 : leC 2 = true := rfl
theorem leC_k3 : leC 3 = true := rfl
theorem leC_k4 : leC 4 = true := rfl
theorem leC_k5 : leC 5 = true := rfl
theorem leC_k6 : leC 6 = true := rfl
theorem leC_k7 : leC 7 = true := rfl
theorem leC_k8 : leC 8 = true := rfl
theorem leC_k9 : leC 9 = true := rfl
theorem leC_k10 : leC 10 = true := rfl
theorem leC_k11 : leC 11 = true := rfl
theorem leC_k12 : leC 12 = true := rfl
theorem leC_k13 : leC 13 = true := rfl
theorem leC_k14 : leC 14 = true := rfl
theorem leC_k15 : leC 15 = true := rfl
theorem leC_k16 : leC 16 = true := rfl
theorem small_of {i : Int} (h1 : -(2 ^ 64) < i) (h2 : i < 2 ^ 64) : small64 i = true := by
  unfold small64
  rw [decide_eq_true h1, decide_eq_true h2]
  rfl
theorem mul_l {a : Int} (ha : small64 a = true) (y : Int) : mulD (.int a) (.int y) = some (.int (a * y), 0) := by
  show (if small64 a || small64 y then some (D.int (a * y), 0) else none) = _
  rw [ha]
  rfl
theorem mul_r {a : Int} (ha : small64 a = true) (y : Int) : mulD (.int y) (.int a) = some (.int (y * a), 0) := by
  show (if small64 y || small64 a then some (D.int (y * a), 0) else none) = _
  rw [ha, Bool.or_true]
  rfl
theorem mod_p {m : Int} (hm : 0 < m) (y : Int) : modD (.int y) (.int m) = some (.int (y % m), 0) := if_pos hm
theorem div_p {m : Int} (hm : 0 < m) (h2 : m < 1073741824) (y : Int) : divD (.int y) (.int m) = some (.int (y / m), 0) := by
  show (if decide (0 < m) && decide (m < 1073741824) then some (D.int (y / m), 0) else none) = _
  rw [decide_eq_true hm, decide_eq_true h2]
  rfl
theorem add_i (y z : Int) : addD (.int y) (.int z) = some (.int (y + z), 0) := rfl
theorem sub_i (y z : Int) : subD (.int y) (.int z) = some (.int (y - z), 0) := rfl
theorem lt_i (a b : Int) : ltB (.int a) (.int b) = some (decide (a < b)) := rfl
theorem gt_i (a b : Int) : gtB (.int a) (.int b) = some (decide (b < a)) := rfl
theorem ge_i (a b : Int) : geB (.int a) (.int b) = some (!decide (a < b)) := rfl
theorem le_i (a b : Int) : leB (.int a) (.int b) = some (!decide (b < a)) := rfl
theorem int_b (b : Bool) : intF [.bl b] = some (.int (if b then 1 else 0), 0) := rfl
theorem int_i (b : Int) : intF [.int b] = some (.int b, 0) := rfl
theorem tru_b (b : Bool) : truB (.bl b) = some b := rfl
theorem tru_i (b : Int) : truB (.int b) = some (b != 0) := rfl
theorem tru_n : truB .non = some false := rfl
theorem tru_l (ds : List D) : truB (.lst ds) = some (!ds.isEmpty) := rfl
theorem tru_t (ds : List D) : truB (.tup ds) = some (!ds.isEmpty) := rfl
theorem len_l (ds : List D) : lenF [.lst ds] = some (.int (ds.length : Nat), 0) := rfl
theorem len_t (ds : List D) : lenF [.tup ds] = some (.int (ds.length : Nat), 0) := rfl
theorem len_r (ds : List D) : lenF [.scr ds] = some (.int (ds.length : Nat), 0) := rfl
theorem tup_l (ds : List D) : tupF [.lst ds] = some (.tup ds, 0) := rfl
theorem tup_t (ds : List D) : tupF [.tup ds] = some (.tup ds, 0) := rfl
theorem is_n (d : D) : isB d .non = some (isNon d) := rfl
theorem app_l (ds : List D) (d : D) : appendF ds [d] = if ds.length < cap then some (ds ++ [d], .non) else none := rfl
theorem app_ok {ds : List D} (h : ds.length < cap) (d : D) : appendF ds [d] = some (ds ++ [d], .non) := if_pos h
theorem pop0 (d : D) (ds : List D) : popF (d :: ds) [.int 0] = some (ds, d) := by
  show (if in62 0 then (seqIndex? 0 (d :: ds).length).bind _ else none) = _
  rw [if_pos (by decide)]
  have e : seqIndex? 0 (d :: ds).length = some 0 := by
    simp [seqIndex?]
  rw [e]
  rfl
/-- an item of a list by a number from 0 -/
theorem ixN_nat {n i : Nat} (h : i < n) : ixN n (i : Int) = some i := by
  unfold ixN
  rw [if_pos (by omega), if_pos (by omega), Int.toNat_natCast]
theorem ixN_neg1 {n : Nat} (h : 0 < n) : ixN n (-1) = some (n - 1) := by
  unfold ixN
  rw [if_neg (by omega), if_pos (by omega)]
  congr 1
  omega
theorem atD_nat {ds : List D} {i : Nat} {d : D} (h : ds[i]? = some d) : atD ds (i : Int) = some d := by
  unfold atD
  rw [ixN_nat (List.getElem?_eq_some_iff.mp h).1]
  exact h
theorem ix_l {ds : List D} {i : Nat} {d : D} (h : ds[i]? = some d) : ixF (.lst ds) (.int (i : Int)) = some (d, 0) := by
  show (atD ds i).map _ = _
  rw [atD_nat h]
  rfl
theorem ix_t {ds : List D} {i : Nat} {d : D} (h : ds[i]? = some d) : ixF (.tup ds) (.int (i : Int)) = some (d, 0) := by
  show (atD ds i).map _ = _
  rw [atD_nat h]
  rfl
theorem ix_c {ds : List D} {i : Nat} {d : D} (h : ds[i]? = some d) : ixF (.scr ds) (.int (i : Int)) = some (d, 0) := by
  show (atD ds i).map _ = _
  rw [atD_nat h]
  rfl
theorem ix_lm1 {ds : List D} {d : D} (h : ds.getLast? = some d) : ixF (.lst ds) (.int (-1)) = some (d, 0) := by
  rw [List.getLast?_eq_getElem?] at h
  show (atD ds (-1)).map _ = _
  have h1 := (List.getElem?_eq_some_iff.mp h).1
  have e : atD ds (-1) = some d := by
    unfold atD
    rw [ixN_neg1 (by omega)]
    exact h
  rw [e]
  rfl
theorem ix_tm1 {ds : List D} {d : D} (h : ds.getLast? = some d) : ixF (.tup ds) (.int (-1)) = some (d, 0) := ix_lm1 h
/-- an item of a list by a drawn number -/
theorem ix_any {ds : List D} {v : Int} (h0 : 0 ≤ v) (h1 : v < ds.length) : ∃ d, d ∈ ds ∧ ixF (.lst ds) (.int v) = some (d, 0) := by
  obtain ⟨i, rfl⟩ : ∃ i : Nat, v = i := ⟨v.toNat, by omega⟩
  have hi : i < ds.length := by omega
  exact ⟨ds[i], List.getElem_mem hi, ix_l (List.getElem?_eq_getElem hi)⟩

/-! ### texts -/
def tx (l : List Nat) : Str := ⟨l.toArray⟩
theorem tx_of (x : Str) : tx x.cps.toList = x := SX.S_tl x
theorem tx_inj {a b : List Nat} (h : tx a = tx b) : a = b := SX.S_inj h
theorem tx_len (a : List Nat) : (tx a).length = a.length := SX.S_len a
theorem tx_cat (a b : List Nat) : tx a ++ tx b = tx (a ++ b) := SX.S_cat a b
theorem tx_beq (a b : List Nat) : (tx a == tx b) = decide (a = b) := SX.S_beq_eq
theorem tx_cps (a : List Nat) : (tx a).cps.toList = a := rfl
def dt (l : List Nat) : D := .str (tx l)
def d1 (c : Nat) : D := .str (tx [c])
theorem d1_dt (c : Nat) : d1 c = dt [c] := rfl
theorem sgn_d1 (c : Nat) : sgn c = d1 c := rfl
theorem sgns_tx (l : List Nat) : sgns (tx l) = l.map d1 := rfl
theorem dt_inj {a b : List Nat} (h : dt a = dt b) : a = b := by
  unfold dt at h
  cases h
  rfl
theorem d1_inj {a b : Nat} (h : d1 a = d1 b) : a = b := by
  have := dt_inj (show dt [a] = dt [b] from h)
  cases this
  rfl
theorem add_s {a b : List Nat} (h : a.length + b.length ≤ cap) : addD (dt a) (dt b) = some (dt (a ++ b), 0) := by
  show (if (tx a).length + (tx b).length ≤ cap then some (D.str (tx a ++ tx b), 0) else none) = _
  rw [tx_len, tx_len, if_pos h, tx_cat]
  rfl
theorem len_s {a : List Nat} (h : a.length ≤ cap) : lenF [dt a] = some (.int (a.length : Nat), 0) := by
  show (if (tx a).length ≤ cap then some (D.int ((tx a).length : Nat), 0) else none) = _
  rw [tx_len, if_pos h]
theorem tru_s {a : List Nat} (h : a.length ≤ cap) : truB (dt a) = some (!a.isEmpty) := by
  show (if (tx a).length ≤ cap then some (((tx a).length : Int) != 0) else none) = _
  rw [tx_len, if_pos h]
  congr 1
  cases a with
  | nil => rfl
  | cons x a =>
    have : ((List.length (x :: a) : Nat) : Int) ≠ 0 := by
      rw [List.length_cons]
      omega
    simp only [List.isEmpty_cons, Bool.not_false, bne_iff_ne, ne_eq, this, not_false_eq_true]
theorem ix_s {a : List Nat} {i c : Nat} (hl : a.length ≤ cap) (h : a[i]? = some c) : ixF (dt a) (.int (i : Int)) = some (d1 c, 0) := by
  show (if (tx a).length ≤ cap then (atI (tx a).cps.toList (i : Int)).map _ else none) = _
  rw [tx_len, if_pos hl, tx_cps]
  have e : atI a (i : Int) = some c := by
    unfold atI
    rw [ixN_nat (List.getElem?_eq_some_iff.mp h).1]
    exact h
  rw [e]
  rfl
theorem slice_s {a : List Nat} (h : a.length ≤ cap) (lo hi : Option Int) : slF (dt a) lo hi = some (dt ((a.drop (HT.sIx a.length 0 lo)).take (HT.sIx a.length a.length hi - HT.sIx a.length 0 lo)), 0) := by
  show (if (tx a).length ≤ cap then some (D.str (cutS (tx a) lo hi), 0) else none) = _
  rw [tx_len, if_pos h]
  unfold cutS
  rw [tx_len]
  rfl
theorem cut_lo {a : List Nat} (h : a.length ≤ cap) (i : Nat) (hi : i ≤ a.length) : slF (dt a) (some (i : Int)) none = some (dt (a.drop i), 0) := by
  rw [slice_s h, HT.sIx_nat, HT.sIx_none, Nat.min_eq_left hi, List.take_of_length_le (by simp)]
theorem cut_hi {a : List Nat} (h : a.length ≤ cap) (i : Nat) (hi : i ≤ a.length) : slF (dt a) none (some (i : Int)) = some (dt (a.take i), 0) := by
  rw [slice_s h, HT.sIx_nat, HT.sIx_none, Nat.min_eq_left hi]
  rfl
theorem join_l : ∀ ls : List (List Nat), TL.joinL [] ls = ls.flatten
  | [] => rfl
  | [p] => by simp [TL.joinL]
  | p :: q :: r => by
    show p ++ ([] ++ TL.joinL [] (q :: r)) = _
    rw [join_l (q :: r)]
    rfl
theorem strs_dt (ls : List (List Nat)) : strsOf (ls.map dt) = some (ls.map tx) := by
  induction ls with
  | nil => rfl
  | cons l ls ih =>
    show (strsOf (ls.map dt)).map (tx l :: ·) = _
    rw [ih]
    rfl
theorem sum_len (ls : List (List Nat)) : ((ls.map tx).map (·.length)).sum = (ls.map (·.length)).sum := by
  rw [List.map_map]
  congr 1
theorem join0 {ls : List (List Nat)} (h : (ls.map (·.length)).sum ≤ 16777216) : joinF (tx []) [.lst (ls.map dt)] = some (dt ls.flatten, 0) := by
  show (strsOf (ls.map dt)).bind _ = _
  rw [strs_dt]
  show (if ((ls.map tx).map (·.length)).sum + (ls.map tx).length * (tx []).length ≤ 16777216 then some (D.str (Txt.join (tx []) (ls.map tx)), 0) else none) = _
  have e0 : (tx []).length = 0 := rfl
  rw [sum_len, e0, Nat.mul_zero, Nat.add_zero, if_pos h]
  have e := SX.join_S [] ls
  rw [join_l] at e
  exact congrArg (fun z => some (D.str z, 0)) e
theorem in_s (c : Nat) (l : List Nat) : inB (d1 c) (dt l) = some (decide (c ∈ l)) := by
  exact @if_pos ((tx [c]).cps.size = 1) _ rfl (Option Bool) _ (some (!(Builtin.Str.occurrences (tx l) (tx [c]) 0 (tx l).length 1).isEmpty))
def abc : List Nat := [97, 98, 99, 100, 101, 102, 103, 104, 105, 106, 107, 108, 109, 110, 111, 112, 113, 114, 115, 116, 117, 118, 119, 120, 121, 122]
theorem index_abc0 : ∀ k, k < 26 → (Builtin.Str.occurrences (tx abc) (tx [97 + k]) 0 26 1).head? = some k := by decide +kernel
theorem index_abc {c : Nat} (h1 : 97 ≤ c) (h2 : c ≤ 122) : sindexF (tx abc) [d1 c] = some (.int ((c - 97 : Nat) : Int), 0) := by
  have e := index_abc0 (c - 97) (by omega)
  rw [show 97 + (c - 97) = c by omega] at e
  show (match Builtin.Str.occurrences (tx abc) (tx [c]) 0 26 1 with
    | i :: _ => some (D.int (i : Nat), 0)
    | [] => none) = _
  cases h : Builtin.Str.occurrences (tx abc) (tx [c]) 0 26 1 with
  | nil =>
    rw [h] at e
    cases e
  | cons i r =>
    rw [h] at e
    cases e
    rfl
theorem str_abc : ("abcdefghijklmnopqrstuvwxyz" : Str) = tx abc := by decide

/-! ### equality -/
mutual
/-- plain data, n deep -/
def pl : Nat → D → Bool
  | _, .non => true
  | _, .int _ => true
  | _, .str x => PyData.strOk x
  | n + 1, .tup ds => plL n ds
  | n + 1, .lst ds => plL n ds
  | _, _ => false
def plL : Nat → List D → Bool
  | _, [] => true
  | n, d :: ds => pl n d && plL n ds
end
mutual
def pdt : D → PyData
  | .int i => .int i
  | .str x => .str x
  | .tup ds => .tuple (pdtL ds)
  | .lst ds => .list (pdtL ds)
  | _ => .none
def pdtL : List D → List PyData
  | [] => []
  | d :: ds => pdt d :: pdtL ds
end
mutual
theorem pl_pyd : ∀ (n : Nat) (d : D), pl n d = true → pyd d = some (pdt d)
  | _, .non, _ => rfl
  | _, .int _, _ => rfl
  | _, .str _, _ => rfl
  | n + 1, .tup ds, h => by
    show (pydL ds).map PyData.tuple = _
    rw [pl_pydL n ds (by simpa [pl] using h)]
    rfl
  | n + 1, .lst ds, h => by
    show (pydL ds).map PyData.list = _
    rw [pl_pydL n ds (by simpa [pl] using h)]
    rfl
  | 0, .tup ds, h => by simp [pl] at h
  | 0, .lst ds, h => by simp [pl] at h
  | _, .bl _, h => by simp [pl] at h
  | _, .dct _, h => by simp [pl] at h
  | _, .dcT _, h => by simp [pl] at h
  | _, .set _, h => by simp [pl] at h
  | _, .obj _, h => by simp [pl] at h
  | _, .glb _, h => by simp [pl] at h
  | _, .exc _ _, h => by simp [pl] at h
  | _, .ty _, h => by simp [pl] at h
  | _, .scr _, h => by simp [pl] at h
theorem pl_pydL : ∀ (n : Nat) (ds : List D), plL n ds = true → pydL ds = some (pdtL ds)
  | _, [], _ => rfl
  | n, d :: ds, h => by
    have h' : pl n d = true ∧ plL n ds = true := by simpa [plL] using h
    unfold pydL
    rw [pl_pyd n d h'.1, pl_pydL n ds h'.2]
    rfl
end
mutual
theorem pl_lay : ∀ (n : Nat) (d : D), pl n d = true → (pdt d).canLay0 = true ∧ (pdt d).depth ≤ n
  | _, .non, _ => ⟨rfl, Nat.zero_le _⟩
  | _, .int _, _ => ⟨rfl, Nat.zero_le _⟩
  | n, .str x, h => ⟨by
    show PyData.strOk x = true
    simpa [pl] using h, Nat.zero_le _⟩
  | n + 1, .tup ds, h => by
    have := pl_layL n ds (by simpa [pl] using h)
    exact ⟨this.1, Nat.succ_le_succ this.2⟩
  | n + 1, .lst ds, h => by
    have := pl_layL n ds (by simpa [pl] using h)
    exact ⟨this.1, Nat.succ_le_succ this.2⟩
  | 0, .tup ds, h => by simp [pl] at h
  | 0, .lst ds, h => by simp [pl] at h
  | _, .bl _, h => by simp [pl] at h
  | _, .dct _, h => by simp [pl] at h
  | _, .dcT _, h => by simp [pl] at h
  | _, .set _, h => by simp [pl] at h
  | _, .obj _, h => by simp [pl] at h
  | _, .glb _, h => by simp [pl] at h
  | _, .exc _ _, h => by simp [pl] at h
  | _, .ty _, h => by simp [pl] at h
  | _, .scr _, h => by simp [pl] at h
theorem pl_layL : ∀ (n : Nat) (ds : List D), plL n ds = true → PyData.canLayAll0 (pdtL ds) = true ∧ PyData.depthAll (pdtL ds) ≤ n
  | _, [], _ => ⟨rfl, Nat.zero_le _⟩
  | n, d :: ds, h => by
    have h' : pl n d = true ∧ plL n ds = true := by simpa [plL] using h
    have h1 := pl_lay n d h'.1
    have h2 := pl_layL n ds h'.2
    refine ⟨?_, Nat.max_le.mpr ⟨h1.2, h2.2⟩⟩
    show (PyData.canLay0 (pdt d) && PyData.canLayAll0 (pdtL ds)) = true
    rw [h1.1, h2.1]
    rfl
end
mutual
theorem eqv_pl : ∀ (n m : Nat) (d e : D), pl n d = true → pl m e = true → (PyData.eqv (pdt d) (pdt e) = true ↔ d = e)
  | n, m, .non, e, h, g => by
    cases e <;> simp [pdt, PyData.eqv, pl] at *
  | n, m, .int i, e, h, g => by
    cases e <;> simp [pdt, PyData.eqv, pl] at *
  | n, m, .str x, e, h, g => by
    cases e <;> simp [pdt, PyData.eqv, pl] at *
  | n + 1, m, .tup ds, e, h, g => by
    cases e with
    | tup es =>
      cases m with
      | zero => simp [pl] at g
      | succ m =>
        have := eqv_plL n m ds es (by simpa [pl] using h) (by simpa [pl] using g)
        simp only [pdt, PyData.eqv, D.tup.injEq]
        exact this
    | _ => simp [pdt, PyData.eqv, pl] at *
  | n + 1, m, .lst ds, e, h, g => by
    cases e with
    | lst es =>
      cases m with
      | zero => simp [pl] at g
      | succ m =>
        have := eqv_plL n m ds es (by simpa [pl] using h) (by simpa [pl] using g)
        simp only [pdt, PyData.eqv, D.lst.injEq]
        exact this
    | _ => simp [pdt, PyData.eqv, pl] at *
  | 0, _, .tup ds, _, h, _ => by simp [pl] at h
  | 0, _, .lst ds, _, h, _ => by simp [pl] at h
  | _, _, .bl _, _, h, _ => by simp [pl] at h
  | _, _, .dct _, _, h, _ => by simp [pl] at h
  | _, _, .dcT _, _, h, _ => by simp [pl] at h
  | _, _, .set _, _, h, _ => by simp [pl] at h
  | _, _, .obj _, _, h, _ => by simp [pl] at h
  | _, _, .glb _, _, h, _ => by simp [pl] at h
  | _, _, .exc _ _, _, h, _ => by simp [pl] at h
  | _, _, .ty _, _, h, _ => by simp [pl] at h
  | _, _, .scr _, _, h, _ => by simp [pl] at h
theorem eqv_plL : ∀ (n m : Nat) (ds es : List D), plL n ds = true → plL m es = true → (PyData.eqvAll (pdtL ds) (pdtL es) = true ↔ ds = es)
  | _, _, [], [], _, _ => by simp [pdtL, PyData.eqvAll]
  | _, _, [], e :: es, _, _ => by simp [pdtL, PyData.eqvAll]
  | _, _, d :: ds, [], _, _ => by simp [pdtL, PyData.eqvAll]
  | n, m, d :: ds, e :: es, h, g => by
    have h' : pl n d = true ∧ plL n ds = true := by simpa [plL] using h
    have g' : pl m e = true ∧ plL m es = true := by simpa [plL] using g
    have i1 := eqv_pl n m d e h'.1 g'.1
    have i2 := eqv_plL n m ds es h'.2 g'.2
    simp only [pdtL, PyData.eqvAll, Bool.and_eq_true, i1, i2, List.cons.injEq]
end
/-- are they alike -/
noncomputable def deq (d e : D) : Bool := @decide (d = e) (Classical.propDecidable _)
theorem deq_iff {d e : D} : deq d e = true ↔ d = e := by
  unfold deq
  exact @decide_eq_true_iff _ (Classical.propDecidable _)
theorem deq_pos {d e : D} (h : d = e) : deq d e = true := deq_iff.mpr h
theorem deq_neg {d e : D} (h : d ≠ e) : deq d e = false := Bool.eq_false_iff.mpr fun z => h (deq_iff.mp z)
theorem eq_pl {d e : D} (h : pl 64 d = true) (g : pl 64 e = true) : eqB d e = some (deq d e) := by
  unfold eqB
  rw [pl_pyd _ _ h, pl_pyd _ _ g]
  have h1 := pl_lay _ _ h
  have g1 := pl_lay _ _ g
  have s1 : SeqAt.shaped (pdt d) = true := by
    unfold SeqAt.shaped
    rw [h1.1, decide_eq_true h1.2]
    rfl
  have s2 : SeqAt.shaped (pdt e) = true := by
    unfold SeqAt.shaped
    rw [g1.1, decide_eq_true g1.2]
    rfl
  dsimp only
  rw [s1, s2, if_pos (by rfl)]
  congr 1
  rw [Bool.eq_iff_iff, eqv_pl _ _ _ _ h g, deq_iff]
theorem ne_pl {d e : D} (h : pl 64 d = true) (g : pl 64 e = true) : neB d e = some (!deq d e) := by
  unfold neB
  rw [eq_pl h g]
  rfl
theorem deq_i (a b : Int) : deq (.int a) (.int b) = decide (a = b) := by
  rw [Bool.eq_iff_iff, deq_iff, decide_eq_true_eq]
  exact ⟨fun h => by cases h; rfl, fun h => by rw [h]⟩
theorem deq_n (a b : Nat) : deq (.int (a : Int)) (.int (b : Int)) = decide (a = b) := by
  rw [deq_i]
  congr 1
  exact propext ⟨fun h => by omega, fun h => by rw [h]⟩
theorem deq_1 (a b : Nat) : deq (d1 a) (d1 b) = decide (a = b) := by
  rw [Bool.eq_iff_iff, deq_iff, decide_eq_true_eq]
  exact ⟨d1_inj, fun h => by rw [h]⟩
theorem deq_t (a b : List Nat) : deq (dt a) (dt b) = decide (a = b) := by
  rw [Bool.eq_iff_iff, deq_iff, decide_eq_true_eq]
  exact ⟨dt_inj, fun h => by rw [h]⟩
theorem pl_i (n : Nat) (i : Int) : pl n (.int i) = true := by cases n <;> rfl
theorem pl_n (n : Nat) : pl n .non = true := by cases n <;> rfl
theorem pl_dt {n : Nat} {l : List Nat} (h : ∀ c ∈ l, c < 1114112) : pl n (dt l) = true := by
  have e : PyData.strOk (tx l) = true := by
    unfold PyData.strOk
    rw [← Array.all_toList]
    exact List.all_eq_true.mpr fun c hc => decide_eq_true (h c hc)
  cases n <;> simpa [pl, dt] using e
theorem pl_d1 {n c : Nat} (h : c < 1114112) : pl n (d1 c) = true := pl_dt (l := [c]) fun x hx => by
  rw [List.mem_singleton.mp hx]
  exact h
theorem plL_all {n : Nat} : ∀ {ds : List D}, (∀ d ∈ ds, pl n d = true) → plL n ds = true
  | [], _ => by cases n <;> rfl
  | d :: ds, h => by
    unfold plL
    rw [h d (List.mem_cons_self ..), plL_all fun x hx => h x (List.mem_cons_of_mem _ hx)]
    rfl
theorem pl_tup {n : Nat} {ds : List D} (h : ∀ d ∈ ds, pl n d = true) : pl (n + 1) (.tup ds) = true := by
  show plL n ds = true
  exact plL_all h
theorem pl_lst {n : Nat} {ds : List D} (h : ∀ d ∈ ds, pl n d = true) : pl (n + 1) (.lst ds) = true := by
  show plL n ds = true
  exact plL_all h
end Mi

set_option Elab.async false
set_option linter.all false
set_option maxRecDepth 100000
set_option maxHeartbeats 1000000
namespace Mi
open PySem L2

/-! ### loops over what is told by a list of another kind -/
section
variable {X : Type} {s s' : Sx} {d : D} {k i j : Nat} {r : List (Option Slot)} {S : List Inst}
/-- behind a comprehension's turn: the item is y', the rest is as it was -/
def StQ (vs : List Nat) (r : List (Option Slot)) (S : List Inst) (y' y : Option D) (s1 : Sx) : Prop := y' = y ∧ wipeR s1.r vs = wipeR r vs ∧ s1.S = S
/-- a comprehension with tests -/
theorem wp_lcxf {f : D → Nat → M Unit} {c : M Bool} {e : M Op} {vs : List Nat} {xs : List X} {h : X → D} {Q : Op → Sx → Prop} (g : X → Option D) (hl : xs.length ≤ cap) (ho : okOwn r vs = true)
    (hs : ∀ x, x ∈ xs → Wp (stepM f c e (h x)) ⟨wipeR r vs, S⟩ fun y s1 => StQ vs r S (g x) y s1) (he : Q (.val (.lst (xs.filterMap g)) 1) ⟨backR r (wipeR r vs) vs, S⟩) : Wp (lcO (.fix (xs.map h)) f c e vs) ⟨r, S⟩ Q := by
  refine wp_lc (fun rest acc s => s = ⟨wipeR r vs, S⟩ ∧ ∃ done todo, xs = done ++ todo ∧ rest = todo.map h ∧ acc = done.filterMap g) (by rw [List.length_map]; exact hl) ho ⟨rfl, [], xs, rfl, rfl, rfl⟩ (fun d rest acc s hI => ?_) (fun acc s hI => ?_)
  · obtain ⟨rfl, done, todo, e1, e2, rfl⟩ := hI
    cases todo with
    | nil => cases e2
    | cons x todo =>
      cases e2
      refine (hs x (by rw [e1]; simp)).mono fun y s1 hy => ?_
      obtain ⟨e3, h2, h3⟩ := hy
      refine ⟨by rw [h2, h3], done ++ [x], todo, by simp [e1], rfl, ?_⟩
      rw [List.filterMap_append, ← e3]
      cases hg : g x <;> simp [hg]
  · obtain ⟨rfl, done, todo, e1, e2, rfl⟩ := hI
    cases todo with
    | cons x todo => cases e2
    | nil =>
      rw [List.append_nil] at e1
      subst e1
      exact he
theorem wp_lcx {f : D → Nat → M Unit} {e : M Op} {vs : List Nat} {xs : List X} {h : X → D} {Q : Op → Sx → Prop} (g : X → D) (hl : xs.length ≤ cap) (ho : okOwn r vs = true)
    (hs : ∀ x, x ∈ xs → Wp (stepM f (ret true) e (h x)) ⟨wipeR r vs, S⟩ fun y s1 => StQ vs r S (some (g x)) y s1) (he : Q (.val (.lst (xs.map g)) 1) ⟨backR r (wipeR r vs) vs, S⟩) : Wp (lcO (.fix (xs.map h)) f (ret true) e vs) ⟨r, S⟩ Q := by
  refine wp_lcxf (fun x => some (g x)) hl ho hs ?_
  have e1 : xs.filterMap (fun d => some (g d)) = xs.map g := by
    have := List.filterMap_eq_map (f := g)
    rw [← this]
    rfl
  rw [e1]
  exact he
theorem wp_lcBx {f : D → Nat → M Unit} {e : M Op} {vs : List Nat} {xs : List X} {h : X → D} {p : Bool} {w : Nat → D → D} {Q : Op → Sx → Prop} (g : X → D) (hr : r[i]? = some (some ⟨.lst (xs.map h), 1, p⟩)) (hv : i ∉ vs) (hl : xs.length ≤ cap) (ho : okOwn r vs = true)
    (hi : (wipeR r vs)[i]? = some (some ⟨.lst (xs.map h), 1, p⟩))
    (hs : ∀ n x, xs[n]? = some x → Wp (stepM f (ret true) e (w n (h x))) ⟨wipeR r vs, S⟩ fun y s1 => StQ vs r S (some (g x)) y s1) (he : Q (.val (.lst (xs.map g)) 1) ⟨backR r (wipeR r vs) vs, S⟩) : Wp (lcO (.bor i w) f (ret true) e vs) ⟨r, S⟩ Q := by
  refine wp_lcB hr hv (fun n acc s => s = ⟨wipeR r vs, S⟩ ∧ acc = (xs.take n).map g) (by rw [List.length_map]; exact hl) ho (fun n acc s hI => ?_) ⟨rfl, by simp⟩ (fun n d acc s hd hI => ?_) (fun acc s hI => ?_)
  · rw [hI.1]
    exact hi
  · obtain ⟨rfl, rfl⟩ := hI
    rw [List.getElem?_map] at hd
    obtain ⟨x, hx, rfl⟩ := Option.map_eq_some_iff.mp hd
    refine (hs n x hx).mono fun y s1 hy => ?_
    obtain ⟨rfl, h2, h3⟩ := hy
    refine ⟨by rw [h2, h3], ?_⟩
    rw [List.take_succ, hx]
    simp
  · obtain ⟨rfl, rfl⟩ := hI
    rw [List.length_map, List.take_length]
    exact he
/-- a loop over what is told by a list of another kind -/
theorem wp_forx {f : D → Nat → M Unit} {b : M Flow} {Q : Flow → Sx → Prop} {xs : List X} {h : X → D} (I : List X → Sx → Prop) (h0 : I xs s)
    (hs : ∀ x rest s, I (x :: rest) s → Wp (f (h x) 0) s fun _ s1 => Wp b s1 fun z s2 => Tn (I rest) Q z s2) (he : ∀ s, I [] s → Q .nx s) : Wp (forO (.fix (xs.map h)) f b) s Q := by
  refine wp_for (fun rest s => ∃ ys, rest = ys.map h ∧ I ys s) ⟨xs, rfl, h0⟩ (fun d rest s hI => ?_) (fun s hI => ?_)
  · obtain ⟨ys, e, hI⟩ := hI
    cases ys with
    | nil => cases e
    | cons y ys =>
      cases e
      refine (hs y ys s hI).mono fun _ s1 h1 => h1.mono fun z s2 h2 => ?_
      cases z
      · exact ⟨ys, rfl, h2⟩
      · exact h2
      · exact ⟨ys, rfl, h2⟩
      · exact h2
  · obtain ⟨ys, e, hI⟩ := hI
    cases ys with
    | nil => exact he s hI
    | cons y ys => cases e
theorem map_app1 {α β : Type} (f : α → β) (l : List α) (x : α) : l.map f ++ [f x] = (l ++ [x]).map f := by
  rw [List.map_append]
  rfl
theorem rng_map (n : Nat) : rngD 0 n = (List.range n).map fun i : Nat => D.int (i : Int) := by
  unfold rngD
  exact List.map_congr_left fun i _ => by rw [Int.zero_add]
theorem en_map {X : Type} (h : X → D) : ∀ (xs : List X) (n : Nat), enumD n (xs.map h) = (xs.zipIdx n).map fun p => D.tup [.int (p.2 : Nat), h p.1]
  | [], _ => rfl
  | x :: xs, n => by
    show D.tup [.int (n : Nat), h x] :: enumD (n + 1) (xs.map h) = _
    rw [en_map h xs (n + 1)]
    rfl
end
end Mi

set_option Elab.async false
set_option linter.all false
set_option maxRecDepth 100000
set_option maxHeartbeats 1000000
namespace Mi
open PySem L2
def frzO : Op → Op
  | .val (.dct kvs) 1 => .val (.dct kvs) 0
  | o => o
theorem frzO_d (kvs : List (Key × D)) : frzO (.val (.dct kvs) 1) = .val (.dct kvs) 0 := rfl
theorem w_frz {s : Sx} (m : M Op) (Q : Op → Sx → Prop) : Wp (frzM m) s Q = Wp m s (fun o s1 => Q (frzO o) s1) := by
  unfold frzM
  rw [w_bnd]
  refine wp_cg fun o s1 => ?_
  cases o with
  | slot i => exact w_ret _ _
  | val d k =>
    cases d with
    | dct kvs =>
      match k with
      | 0 => exact w_ret _ _
      | 1 => exact w_ret _ _
      | k + 2 => exact w_ret _ _
    | _ => exact w_ret _ _
end Mi

set_option Elab.async false
set_option linter.all false
set_option maxRecDepth 100000
set_option maxHeartbeats 4000000
namespace Mi
open PySem L2

/-! ### instances, by what is wanted behind -/
def obF (d : D) : Option Nat := match d with
  | .obj n => some n
  | _ => none
def clB (c : Str) (cl : List Str) : Bool := decide (c ∈ cl)
def fldF (i : Inst) (f : Str) : Option D := match i.fs.lookup f with
  | some sl => if sl.k = 0 then some sl.d else none
  | none => none
def noF (i : Inst) (m : Str) : Bool := (i.fs.lookup m).isNone
def few (i : Inst) : Bool := decide (i.fs.length < 1000)
def lckO (o : Op) : M Op := match o with
  | .val (.dct kvs) 1 => ret (.val (.dct kvs) 0)
  | .slot i => fun s => match s.r[i]? with
    | some (some ⟨.dct kvs, 1, p⟩) => .ok (.slot i) { s with r := s.r.set i (some ⟨.dct kvs, 0, p⟩) }
    | _ => .ok (.slot i) s
  | o => ret o
def dsO (g : List (Key × D) → List D) (o : Op) : M Src := bnd (look o) fun p => match p.1 with
  | .dct kvs => if p.2 = 0 then ret (.fix (g kvs)) else stuck
  | _ => stuck
def augS (i : Nat) (d : D) : M Flow := fun s => match s.r[i]? with
  | some (some ⟨.lst ds, 1, p⟩) => match d with
    | .lst es => if ds.length + es.length ≤ cap then .ok .nx { s with r := s.r.set i (some ⟨.lst (ds ++ es), 1, p⟩) } else .no
    | _ => .no
  | _ => .no
def augF (sl : Slot) (d : D) : Option Slot := match sl with
  | ⟨.lst ds, 1, p⟩ => match d with
    | .lst es => if ds.length + es.length ≤ cap then some ⟨.lst (ds ++ es), 1, p⟩ else none
    | _ => none
  | _ => none
section
variable {α β : Type} {s s' : Sx} {d e : D} {k i j n : Nat} {r : List (Option Slot)} {S : List Inst}
theorem obF_o : obF (.obj n) = some n := by with_unfolding_all rfl
theorem clB_1 (c : Str) : clB c [c] = true := by
  unfold clB
  exact decide_eq_true (List.mem_singleton_self c)
theorem w_ins (cl : List Str) (o : Op) (Q : Nat × Inst → Sx → Prop) : Wp (insM cl o) s Q = Wp (look o) s (fun p s1 => atO (obF p.1) fun n => atO (s1.S[n]?) fun i => Gd (clB i.cls cl) (Q (n, i) s1)) := by
  unfold insM
  rw [w_bnd]
  refine wp_cg fun p s1 => ?_
  obtain ⟨d, k⟩ := p
  cases d <;> first | with_unfolding_all rfl | skip
  rename_i n
  unfold Wp obF
  dsimp only [atO]
  cases s1.S[n]? with
  | none => with_unfolding_all rfl
  | some i =>
    dsimp only
    by_cases h : i.cls ∈ cl
    · rw [if_pos h]
      unfold clB
      rw [decide_eq_true h, Gd_t]
      with_unfolding_all rfl
    · rw [if_neg h]
      unfold clB
      rw [decide_eq_false h]
      exact propext ⟨fun q => q.elim, fun q => nomatch q.1⟩
theorem w_att (cl : List Str) (f : Str) (m : M Op) (Q : Op → Sx → Prop) : Wp (attM cl f m) s Q = Wp m s (fun o s1 => Wp (insM cl o) s1 fun p s2 => atO (fldF p.2 f) fun d => Q (.val d 0) s2) := by
  unfold attM
  rw [w_bnd]
  refine wp_cg fun o s1 => ?_
  rw [w_bnd]
  refine wp_cg fun p s2 => ?_
  unfold fldF
  cases p.2.fs.lookup f with
  | none => with_unfolding_all rfl
  | some sl =>
    dsimp only
    by_cases h : sl.k = 0
    · rw [if_pos h, if_pos h]
      with_unfolding_all rfl
    · rw [if_neg h, if_neg h]
      with_unfolding_all rfl
theorem callO_eq (f : Fn) (np : Nat) (dfl : List D) (os : List Op) : callO' f np dfl os = callO f np dfl os := by
  funext s
  unfold callO callM
  show _ = bnd (ret os) _ s
  unfold bnd
  with_unfolding_all rfl
theorem w_meth (cl : List Str) (m : Str) (f : Fn) (np : Nat) (dfl : List D) (mo : M Op) (ms : M (List Op)) (Q : Op → Sx → Prop) : Wp (methM cl m f np dfl mo ms) s Q = Wp mo s (fun o s1 => Wp (insM cl o) s1 fun p s2 => Gd (noF p.2 m) (Wp ms s2 fun os s3 => Wp (callO f np dfl (.val (.obj p.1) 0 :: os)) s3 Q)) := by
  unfold methM
  rw [w_bnd]
  refine wp_cg fun o s1 => ?_
  rw [w_bnd]
  refine wp_cg fun p s2 => ?_
  unfold noF
  cases (p.2.fs.lookup m).isNone with
  | false =>
    rw [if_neg (by decide), w_stuck]
    exact propext ⟨fun q => q.elim, fun q => nomatch q.1⟩
  | true =>
    rw [if_pos rfl, Gd_t, w_bnd]
    refine wp_cg fun os s3 => ?_
    rw [callO_eq]
theorem w_ifk (a b c e : Nat) (m : M α) (Q : α → Sx → Prop) : Wp (if a = b ∧ c = e then m else stuck) s Q = Gd (neq a b && neq c e) (Wp m s Q) := by
  by_cases h : a = b ∧ c = e
  · rw [if_pos h, h.1, h.2, neq_t, neq_t, Bool.true_and, Gd_t]
  · rw [if_neg h, w_stuck]
    refine propext ⟨fun q => q.elim, fun q => h ?_⟩
    have h1 := Bool.and_eq_true_iff.mp q.1
    exact ⟨eq_of_beq h1.1, eq_of_beq h1.2⟩
theorem w_methK (cl : List Str) (m : Str) (fn : Fn) (np n nk : Nat) (code : List Nat) (dfl : List D) (mo : M Op) (ms mk : M (List Op)) (Q : Op → Sx → Prop) : Wp (methK cl m fn np n nk code dfl mo ms mk) s Q = Wp mo s (fun o s1 => Wp (insM cl o) s1 fun p s2 => Gd (noF p.2 m) (Wp ms s2 fun os s3 => Wp mk s3 fun zs s4 => Gd (neq os.length n && neq zs.length nk) (Wp (callO fn np [] (pickL code (.val (.obj p.1) 0 :: os ++ (zs ++ dfl.map fun d => Op.val d 0)))) s4 Q))) := by
  unfold methK
  rw [w_bnd]
  refine wp_cg fun o s1 => ?_
  rw [w_bnd]
  refine wp_cg fun p s2 => ?_
  unfold noF
  cases (p.2.fs.lookup m).isNone with
  | false =>
    rw [if_neg (by decide), w_stuck]
    exact propext ⟨fun q => q.elim, fun q => nomatch q.1⟩
  | true =>
    rw [if_pos rfl, Gd_t, w_bnd]
    refine wp_cg fun os s3 => ?_
    rw [w_bnd]
    refine wp_cg fun zs s4 => ?_
    rw [w_ifk, w_call, w_ret]
theorem w_mk (C : Str) (fn : Fn) (np : Nat) (dfl : List D) (ms : M (List Op)) (Q : Op → Sx → Prop) : Wp (mkM C fn np dfl ms) s Q = Wp ms s (fun os s1 => Wp (mkI C fn np dfl os) s1 Q) := by
  unfold mkM
  rw [w_bnd]
theorem w_gN (o : Op) (m : M α) (Q : α → Sx → Prop) : Wp (if noneO o = true then m else stuck) s Q = Gd (noneO o) (Wp m s Q) := by
  cases noneO o with
  | false =>
    rw [if_neg (by decide), w_stuck]
    exact propext ⟨fun q => q.elim, fun q => nomatch q.1⟩
  | true => rw [if_pos rfl, Gd_t]
theorem w_mkI (C : Str) (fn : Fn) (np : Nat) (dfl : List D) (os : List Op) (Q : Op → Sx → Prop) : Wp (mkI C fn np dfl os) ⟨r, S⟩ Q = Wp (callO fn np dfl (.val (.obj S.length) 0 :: os)) ⟨r, S ++ [⟨C, []⟩]⟩ (fun o s2 => Gd (noneO o) (Q (.val (.obj S.length) 0) s2)) := by
  unfold mkI
  rw [w_bnd]
  show Wp (newI C) ⟨r, S⟩ _ = _
  rw [show Wp (newI C) ⟨r, S⟩ (fun n s' => Wp (bnd (callO' fn np dfl (.val (.obj n) 0 :: os)) fun o => if noneO o = true then ret (.val (.obj n) 0) else stuck) s' Q) = Wp (bnd (callO' fn np dfl (.val (.obj S.length) 0 :: os)) fun o => if noneO o = true then ret (.val (.obj S.length) 0) else stuck) ⟨r, S ++ [⟨C, []⟩]⟩ Q by with_unfolding_all rfl]
  rw [w_bnd, callO_eq]
  refine wp_cg fun o s2 => ?_
  rw [w_gN, w_ret]
theorem w_mkK (C : Str) (fn : Fn) (np n nk : Nat) (code : List Nat) (dfl : List D) (ms mk : M (List Op)) (Q : Op → Sx → Prop) : Wp (mkK C fn np n nk code dfl ms mk) s Q = Wp ms s (fun os s1 => Wp mk s1 fun zs s2 => Gd (neq os.length n && neq zs.length nk) (Wp (mkKI C fn np code dfl os zs) s2 Q)) := by
  unfold mkK
  rw [w_bnd]
  refine wp_cg fun os s1 => ?_
  rw [w_bnd]
  refine wp_cg fun zs s2 => ?_
  rw [w_ifk]
theorem w_mkKI (C : Str) (fn : Fn) (np : Nat) (code : List Nat) (dfl : List D) (os zs : List Op) (Q : Op → Sx → Prop) : Wp (mkKI C fn np code dfl os zs) ⟨r, S⟩ Q = Wp (callO fn np [] (pickL code (.val (.obj S.length) 0 :: (os ++ (zs ++ dfl.map fun d => Op.val d 0))))) ⟨r, S ++ [⟨C, []⟩]⟩ (fun o s2 => Gd (noneO o) (Q (.val (.obj S.length) 0) s2)) := by
  unfold mkKI
  rw [w_bnd]
  rw [show Wp (newI C) ⟨r, S⟩ (fun n s' => Wp (bnd (callO' fn np [] (pickL code (.val (.obj n) 0 :: (os ++ (zs ++ dfl.map fun d => Op.val d 0))))) fun o => if noneO o = true then ret (.val (.obj n) 0) else stuck) s' Q) = Wp (bnd (callO' fn np [] (pickL code (.val (.obj S.length) 0 :: (os ++ (zs ++ dfl.map fun d => Op.val d 0))))) fun o => if noneO o = true then ret (.val (.obj S.length) 0) else stuck) ⟨r, S ++ [⟨C, []⟩]⟩ Q by with_unfolding_all rfl]
  rw [w_bnd, callO_eq]
  refine wp_cg fun o s2 => ?_
  rw [w_gN, w_ret]
theorem noneO_n : noneO (.val .non 0) = true := by with_unfolding_all rfl
theorem w_setI (n : Nat) (f : Str) (d : D) (Q : Unit → Sx → Prop) : Wp (setI n f d) ⟨r, S⟩ Q = atO (S[n]?) (fun i => Gd (few i) (Q () ⟨r, S.set n ⟨i.cls, putI f d i.fs⟩⟩)) := by
  unfold Wp setI
  dsimp only [atO]
  cases S[n]? with
  | none => with_unfolding_all rfl
  | some i =>
    dsimp only
    unfold few
    by_cases h : i.fs.length < 1000
    · rw [if_pos h, decide_eq_true h, Gd_t]
      with_unfolding_all rfl
    · rw [if_neg h, decide_eq_false h]
      exact propext ⟨fun q => q.elim, fun q => nomatch q.1⟩
theorem w_fld (cl : List Str) (f : Str) (mo mv : M Op) (Q : Flow → Sx → Prop) : Wp (fldM cl f mo mv) s Q = Wp mv s (fun o s1 => Wp (fzo o) s1 fun d s2 => Wp mo s2 fun q s3 => Wp (insM cl q) s3 fun p s4 => Wp (setI p.1 f d) s4 fun _ s5 => Q .nx s5) := by
  unfold fldM
  rw [w_bnd]
  refine wp_cg fun o s1 => ?_
  rw [w_bnd]
  refine wp_cg fun d s2 => ?_
  rw [w_bnd]
  refine wp_cg fun q s3 => ?_
  rw [w_bnd]
  refine wp_cg fun p s4 => ?_
  rw [w_bnd]
  refine wp_cg fun _ s5 => ?_
  rw [w_ret]
theorem ap_get (i : Inst) : (S ++ [i])[S.length]? = some i := by
  rw [List.getElem?_append_right (Nat.le_refl _), Nat.sub_self] <;> rfl
theorem ap_set (i j : Inst) : (S ++ [i]).set S.length j = S ++ [j] := by
  rw [List.set_append_right _ _ (Nat.le_refl _), Nat.sub_self] <;> rfl
theorem few_0 (c : Str) : few ⟨c, []⟩ = true := by with_unfolding_all rfl
theorem few_1 (c : Str) (a : Str × Slot) : few ⟨c, [a]⟩ = true := by with_unfolding_all rfl
theorem few_2 (c : Str) (a b : Str × Slot) : few ⟨c, [a, b]⟩ = true := by with_unfolding_all rfl
theorem few_3 (c : Str) (a b d : Str × Slot) : few ⟨c, [a, b, d]⟩ = true := by with_unfolding_all rfl
theorem putI_0 (f : Str) : putI f d [] = [(f, ⟨d, 0, false⟩)] := by with_unfolding_all rfl
theorem lck_v1 (kvs : List (Key × D)) (Q : Op → Sx → Prop) : Wp (lckO (.val (.dct kvs) 1)) s Q = Q (.val (.dct kvs) 0) s := by with_unfolding_all rfl
theorem lck_v0 (kvs : List (Key × D)) (Q : Op → Sx → Prop) : Wp (lckO (.val (.dct kvs) 0)) s Q = Q (.val (.dct kvs) 0) s := by with_unfolding_all rfl
def lckS (i : Nat) (sl : Slot) (r : List (Option Slot)) (S : List Inst) (Q : Op → Sx → Prop) (t : Tk Q := Unit.unit) : Prop := match sl with
  | ⟨.dct kvs, 1, p⟩ => Q (.slot i) ⟨r.set i (some ⟨.dct kvs, 0, p⟩), S⟩
  | _ => Q (.slot i) ⟨r, S⟩
theorem lck_s (Q : Op → Sx → Prop) (h : (r[i]?).isSome) (h2 : (r[i]?).join.isSome) : Wp (lckO (.slot i)) ⟨r, S⟩ Q = atS r[i]? (fun sl => lckS i sl r S Q) := by
  unfold Wp lckO
  dsimp only
  cases hr : r[i]? with
  | none =>
    rw [hr] at h
    cases h
  | some o => cases o with
    | none =>
      rw [hr] at h2
      cases h2
    | some sl =>
      obtain ⟨d, k, p⟩ := sl
      cases d <;> first | with_unfolding_all rfl | (cases k with
        | zero => with_unfolding_all rfl
        | succ k => cases k <;> with_unfolding_all rfl)
theorem lckS_1 (kvs : List (Key × D)) (p : Bool) (Q : Op → Sx → Prop) : lckS i ⟨.dct kvs, 1, p⟩ r S Q = Q (.slot i) ⟨r.set i (some ⟨.dct kvs, 0, p⟩), S⟩ := by with_unfolding_all rfl
theorem lckS_0 (kvs : List (Key × D)) (p : Bool) (Q : Op → Sx → Prop) : lckS i ⟨.dct kvs, 0, p⟩ r S Q = Q (.slot i) ⟨r, S⟩ := by with_unfolding_all rfl
theorem w_ds (g : List (Key × D) → List D) (m : M Op) (Q : Src → Sx → Prop) : Wp (dsM g m) s Q = Wp m s (fun o s1 => Wp (lckO o) s1 fun o' s2 => Wp (dsO g o') s2 Q) := by
  show Wp (bnd (bnd m lckO) (dsO g)) s Q = _
  rw [w_bnd, w_bnd]
theorem w_dsO (g : List (Key × D) → List D) (o : Op) (Q : Src → Sx → Prop) : Wp (dsO g o) s Q = Wp (look o) s (fun p s2 => atO (dF p.1) fun kvs => Gd (z0 p.2) (Q (.fix (g kvs)) s2)) := by
  unfold dsO
  rw [w_bnd]
  refine wp_cg fun p s2 => ?_
  obtain ⟨d, k⟩ := p
  cases d <;> first | with_unfolding_all rfl | skip
  cases k with
  | zero =>
    rw [z0_0]
    show Wp (ret (Src.fix (g _))) s2 Q = Gd true _
    rw [w_ret, Gd_t]
  | succ k =>
    rw [z0_s]
    show Wp (stuck : M Src) s2 Q = Gd false _
    rw [w_stuck]
    exact propext ⟨fun q => q.elim, fun q => nomatch q.1⟩
theorem w_aug (i : Nat) (m : M Op) (Q : Flow → Sx → Prop) : Wp (augM i m) s Q = Wp (vr i) s (fun _ s0 => Wp m s0 fun o s1 => Wp (fzo o) s1 fun d s2 => Wp (augS i d) s2 Q) := by
  show Wp (bnd (vr i) fun _ => bnd m fun o => bnd (fzo o) fun d => augS i d) s Q = _
  rw [w_bnd]
  refine wp_cg fun _ s0 => ?_
  rw [w_bnd]
  refine wp_cg fun o s1 => ?_
  rw [w_bnd]
theorem w_augS (i : Nat) (d : D) (Q : Flow → Sx → Prop) : Wp (augS i d) ⟨r, S⟩ Q = atS r[i]? (fun sl => atO (augF sl d) fun sl' => Q .nx ⟨r.set i (some sl'), S⟩) := by
  unfold Wp augS
  dsimp only
  cases r[i]? with
  | none => with_unfolding_all rfl
  | some o => cases o with
    | none => with_unfolding_all rfl
    | some sl =>
      obtain ⟨d0, k, p⟩ := sl
      dsimp only [atS]
      cases d0 <;> first | with_unfolding_all rfl | skip
      cases k with
      | zero => with_unfolding_all rfl
      | succ k => cases k with
        | succ k => with_unfolding_all rfl
        | zero =>
          cases d <;> first | with_unfolding_all rfl | skip
          rename_i ds es
          show Wr (if ds.length + es.length ≤ cap then Rs.ok Flow.nx { r := r.set i (some { d := D.lst (ds ++ es), k := 1, pin := p }), S := S } else Rs.no) Q = atO (if ds.length + es.length ≤ cap then some (⟨.lst (ds ++ es), 1, p⟩ : Slot) else none) _
          by_cases h : ds.length + es.length ≤ cap
          · rw [if_pos h, if_pos h]
            with_unfolding_all rfl
          · rw [if_neg h, if_neg h]
            with_unfolding_all rfl
theorem augF_l (ds es : List D) (p : Bool) (h : ds.length + es.length ≤ cap) : augF ⟨.lst ds, 1, p⟩ (.lst es) = some ⟨.lst (ds ++ es), 1, p⟩ := by
  unfold augF
  exact if_pos h
end
end Mi

set_option Elab.async false
set_option linter.all false
set_option maxRecDepth 100000
set_option maxHeartbeats 4000000
namespace Mi
open PySem L2 PySem.Spec PyProof.Rows

/-! ### len of a dict -/
section
variable {X : Cx} {wx : WX} {e : Expr} {ms : M (List Op)} {p pos : Pos}
def rLenRd : List V → Hp → VK → Prop := fun xs H Q => ∃ a kvs, xs = [V.ref a] ∧ Rd H a (.dK kvs) ∧ Q (.int kvs.length) H
theorem call_lenRd : CallR X (.builtin "len") rLenRd := by
  intro pins s σ H xs us Q I r h
  obtain ⟨a, kvs, rfl, ha, q⟩ := h
  obtain ⟨u, rfl, ru⟩ := vals1 r
  cases ru
  exact d_len I ha fun t s' I' => ⟨.int kvs.length, H, I', ⟨t, rfl⟩, q⟩
def lenD (ds : List D) : Option (D × Nat) := match ds with
  | [.dct kvs] => some (.int (kvs.length : Nat), 0)
  | _ => none
theorem blt_lenD : Blt X rLenRd lenD := by
  intro w ds vs o k Q ok iv ef hr
  unfold lenD at ef
  split at ef
  · cases ef
    obtain ⟨v, rfl, a, kv, rfl, ha, t⟩ := itvs1 iv
    refine ⟨a, kv, rfl, ha, ?_⟩
    rw [VxD.len t]
    exact hr.int ok
  · cases ef
def lenG (ds : List D) : Option (D × Nat) := match lenF ds with
  | some r => some r
  | none => lenD ds
theorem ce_lenG (hg : Gl X "len") (hm : X.mg "len" = none) (ha : CA X wx [e] ms) (he : starEach [e] X.env = (false, eval e X.env) :: starEach [] X.env := by rfl) : CE X wx (.Call (.Name "len" p) [e] [] pos) (bltM lenG ms) := ce_blt (call_len.or call_lenRd) (Blt.or blt_len blt_lenD) hg hm (by decide +kernel) ha (he := he) (hpl := rfl)
theorem lenG_l (ds : List D) : lenG [.lst ds] = some (.int (ds.length : Nat), 0) := by with_unfolding_all rfl
theorem lenG_t (ds : List D) : lenG [.tup ds] = some (.int (ds.length : Nat), 0) := by with_unfolding_all rfl
theorem lenG_r (ds : List D) : lenG [.scr ds] = some (.int (ds.length : Nat), 0) := by with_unfolding_all rfl
theorem lenG_d (kvs : List (Key × D)) : lenG [.dct kvs] = some (.int (kvs.length : Nat), 0) := by with_unfolding_all rfl
theorem lenG_s (z : Str) : lenG [.str z] = lenF [.str z] := by
  unfold lenG
  cases lenF [.str z] with
  | none => with_unfolding_all rfl
  | some r => with_unfolding_all rfl
theorem minG_i (i j : Int) : minG [.int i, .int j] = minF [.int i, .int j] := by with_unfolding_all rfl
theorem maxG_i (i j : Int) : maxG [.int i, .int j] = maxF [.int i, .int j] := by with_unfolding_all rfl
theorem lk_miss {f g : Str} {sl : Slot} {r : List (Str × Slot)} (h : (f == g) = false) : List.lookup f ((g, sl) :: r) = List.lookup f r := by
  rw [List.lookup_cons, h]
theorem lk_hit {f : Str} {sl : Slot} {r : List (Str × Slot)} : List.lookup f ((f, sl) :: r) = some sl := by
  rw [List.lookup_cons, beq_self_eq_true]
end
end Mi

set_option Elab.async false
set_option linter.all false
set_option maxRecDepth 100000
set_option maxHeartbeats 4000000
namespace Mi
open PySem L2

/-! ### a, b, c = x, y, z -/
def par3 (os : List Op) : Option (Op × Op × Op) := match os with
  | [a, b, c] => some (a, b, c)
  | _ => none
def parM3 (i j l : Nat) (ms : M (List Op)) : M Flow := bnd ms fun os => bnd (opt (par3 os)) fun x => bnd (own x.1) fun p => bnd (own x.2.1) fun q => bnd (own x.2.2) fun z => bnd (setM i p.1 p.2) fun _ => bnd (setM j q.1 q.2) fun _ => bnd (setM l z.1 z.2) fun _ => ret .nx
section
variable {X : Cx} {wx : WX} {s0 st : St} {s s' : Sx} {w w0 w1 : Wd} {fp fp0 fp1 fo g : List Addr} {E : Ends}
theorem cs_par3 {i j l : Nat} {x y z : Str} {a b c : Expr} {ms : M (List Op)} {px py pz pt pos : Pos} {kt k2 pt2} (hc : X.calm = true) (hN : X.N.Nodup) (hi : X.N[i]? = some x) (hj : X.N[j]? = some y) (hl : X.N[l]? = some z) (hij : i ≠ j) (hil : i ≠ l) (hjl : j ≠ l)
    (hx : X.env.scope.names.lookup x = some .local) (hy : X.env.scope.names.lookup y = some .local) (hz : X.env.scope.names.lookup z = some .local) (ha : CA X wx [a, b, c] ms)
    (hw : swappedStores [.Tuple [.Name x px, .Name y py, .Name z pz] kt pt] (.Tuple [a, b, c] k2 pt2) X.env = pure (some [x, y, z]))
    (hs : swapsWithSole [.Tuple [.Name x px, .Name y py, .Name z pz] kt pt] (.Tuple [a, b, c] k2 pt2) pos.line X.env = pure false := by rfl) :
    CS X wx (.Assign [.Tuple [.Name x px, .Name y py, .Name z pz] kt pt] (.Tuple [a, b, c] k2 pt2) pos) (parM3 i j l ms) := by
  refine ⟨fun s0 s st w fp E R hp => ⟨_, ps_par3 hc hN hi hj hl hij hil hjl hx hy hz pa_W hw hs, ?_⟩⟩
  refine ha.goS R hp fun os s1 vs w1 f1 fp1 R1 r1 n1 S1 hp1 => ?_
  match os, vs, r1, hp1 with
  | [], _, _, hp1 => exact hp1.elim
  | [_], _, _, hp1 => exact hp1.elim
  | [_, _], _, _, hp1 => exact hp1.elim
  | _ :: _ :: _ :: _ :: _, _, _, hp1 => exact hp1.elim
  | [o1, o2, o3], [v, u, t], ⟨g1, g0, e1, h1, g2, g4, e2, h2, g3, g5, e3, h3, h4⟩, hp1 =>
    have e5 : g5 = [] := h4
    subst e5
    rw [List.append_nil] at e3
    subst e3 e2 e1
    refine ⟨v, u, t, rfl, ?_⟩
    have hp1' : PostS X wx s0 w fp (bnd (own o1) (fun p => bnd (own o2) fun q => bnd (own o3) fun z => bnd (setM i p.1 p.2) fun _ => bnd (setM j q.1 q.2) fun _ => bnd (setM l z.1 z.2) fun _ => ret .nx) s1) E := hp1
    have na : (g1 ++ fp1).Nodup := by
      simp only [List.nodup_append, List.mem_append] at n1 ⊢
      grind
    obtain ⟨d, k, s2, w2, f2, fp2, R2, ow, n2, S2, eH, hp2⟩ := ownS_go hp1' R1 h1 na
    have nb : ∀ x ∈ g2 ++ g4, x ∉ g1 ++ fp1 := fun x hx hx' => by
      simp only [List.nodup_append, List.mem_append] at n1 hx' hx
      grind
    have h2' : OpR X.K st w2 o2 u g2 := OpR.stp h2 S2 fun x hx => nb x (List.mem_append_left _ hx)
    have h3' : OpR X.K st w2 o3 t g4 := OpR.stp h3 S2 fun x hx => nb x (List.mem_append_right _ hx)
    have nd2 : ((g2 ++ g4) ++ (f2 ++ fp2)).Nodup := S2.nodup (g := g2 ++ g4) (by
      simp only [List.nodup_append, List.mem_append] at n1 ⊢
      grind) (fun x hx => by
        rcases List.mem_append.mp hx with hx | hx
        · exact (OpR.dom h2 x hx).1
        · exact (OpR.dom h3 x hx).1) n2
    obtain ⟨d', k', s3, w3, f3, fp3, R3, ow', n3, S3, eH3, hp3⟩ := ownS_go hp2 R2 h2' (by
      simp only [List.nodup_append, List.mem_append] at nd2 ⊢
      grind)
    have ow3 : Ow X.K w3 k d v f2 := Ow.stp ow S3 fun x hx hx' => by
      simp only [List.nodup_append, List.mem_append] at nd2 hx'
      grind
    have h3'' : OpR X.K st w3 o3 t g4 := OpR.stp h3' S3 fun x hx hx' => by
      simp only [List.nodup_append, List.mem_append] at nd2 hx'
      grind
    have nd3 : ((f2 ++ g4) ++ (f3 ++ fp3)).Nodup := S3.nodup (g := f2 ++ g4) (by
      simp only [List.nodup_append, List.mem_append] at nd2 ⊢
      grind) (fun x hx => by
        rcases List.mem_append.mp hx with hx | hx
        · exact (ow.dom x hx).1
        · exact (OpR.dom h3' x hx).1) n3
    obtain ⟨d3, k3, s4, w4, f4, fp4, R4, ow4, n4, S4, eH4, hp4⟩ := ownS_go hp3 R3 h3'' (by
      simp only [List.nodup_append, List.mem_append] at nd3 ⊢
      grind)
    have ow5 : Ow X.K w4 k d v f2 := Ow.stp ow3 S4 fun x hx hx' => by
      simp only [List.nodup_append, List.mem_append] at nd3 hx'
      grind
    have ow6 : Ow X.K w4 k' d' u f3 := Ow.stp ow' S4 fun x hx hx' => by
      simp only [List.nodup_append, List.mem_append] at nd3 hx'
      grind
    have nd4 : ((f2 ++ f3) ++ (f4 ++ fp4)).Nodup := S4.nodup (g := f2 ++ f3) (by
      simp only [List.nodup_append, List.mem_append] at nd3 ⊢
      grind) (fun x hx => by
        rcases List.mem_append.mp hx with hx | hx
        · exact (ow3.dom x hx).1
        · exact (ow'.dom x hx).1) n4
    obtain ⟨s5, fp5, R5, sub5, hp5⟩ := setS_go hp4 R4 ow5 (by
      simp only [List.nodup_append, List.mem_append] at nd4 ⊢
      grind)
    obtain ⟨s6, fp6, R6, sub6, hp6⟩ := setS_go hp5 R5 ow6 (by
      refine List.nodup_append.mpr ⟨?_, R5.nd, fun x hx y hy e => ?_⟩
      · simp only [List.nodup_append, List.mem_append] at nd4
        grind
      · subst e
        have := sub5 x hy
        simp only [List.nodup_append, List.mem_append] at nd4 this
        grind)
    obtain ⟨s7, fp7, R7, sub7, hp7⟩ := setS_go hp6 R6 ow4 (by
      refine List.nodup_append.mpr ⟨?_, R6.nd, fun x hx y hy e => ?_⟩
      · simp only [List.nodup_append, List.mem_append] at nd4
        grind
      · subst e
        have h5 := sub6 x hy
        simp only [List.mem_append] at h5
        rcases h5 with h5 | h5
        · simp only [List.nodup_append, List.mem_append] at nd4
          grind
        · have := sub5 x h5
          simp only [List.nodup_append, List.mem_append] at nd4 this
          grind)
    rw [← eH, ← eH3, ← eH4]
    refine hp7 _ w4 fp7 R7 (S1.trans ?_)
    have T : Stp w1 (g1 ++ (g2 ++ g4) ++ fp1) w4 fp7 := by
      have a1 : Stp w1 ((g2 ++ g4) ++ (g1 ++ fp1)) w2 ((g2 ++ g4) ++ (f2 ++ fp2)) := S2.beside
      have a2 : Stp w2 ((f2 ++ g4) ++ (g2 ++ fp2)) w3 ((f2 ++ g4) ++ (f3 ++ fp3)) := S3.beside
      have a3 : Stp w3 ((f2 ++ f3) ++ (g4 ++ fp3)) w4 ((f2 ++ f3) ++ (f4 ++ fp4)) := S4.beside
      have b1 : Stp w1 (g1 ++ (g2 ++ g4) ++ fp1) w2 ((f2 ++ g4) ++ (g2 ++ fp2)) := (a1.more fun x m => by simp only [List.mem_append] at m ⊢; grind).sub fun x m => by simp only [List.mem_append] at m ⊢; grind
      have b2 : Stp w2 ((f2 ++ g4) ++ (g2 ++ fp2)) w3 ((f2 ++ f3) ++ (g4 ++ fp3)) := a2.sub fun x m => by simp only [List.mem_append] at m ⊢; grind
      refine ((b1.trans b2).trans a3).sub fun x m => ?_
      have h7 := sub7 x m
      simp only [List.mem_append] at h7 ⊢
      rcases h7 with h7 | h7
      · grind
      · have h6 := sub6 x h7
        simp only [List.mem_append] at h6
        rcases h6 with h6 | h6
        · grind
        · have h5 := sub5 x h6
          simp only [List.mem_append] at h5
          grind
    exact T.more fun x m => by simp only [List.mem_append] at m ⊢; grind
theorem par3_c (a b c : Op) : par3 [a, b, c] = some (a, b, c) := by with_unfolding_all rfl
theorem w_par3 (i j l : Nat) (ms : M (List Op)) (Q : Flow → Sx → Prop) : Wp (parM3 i j l ms) s Q = Wp ms s (fun os s1 => atO (par3 os) fun x => Wp (own x.1) s1 fun p s2 => Wp (own x.2.1) s2 fun q s3 => Wp (own x.2.2) s3 fun z s4 => Wp (setM i p.1 p.2) s4 fun _ s5 => Wp (setM j q.1 q.2) s5 fun _ s6 => Wp (setM l z.1 z.2) s6 fun _ s7 => Q .nx s7) := by
  unfold parM3
  rw [w_bnd]
  refine wp_cg fun os s1 => ?_
  rw [w_bnd, w_opt]
  refine ato_cg fun x => ?_
  repeat first | (rw [w_bnd]; refine wp_cg fun _ _ => ?_) | with_unfolding_all rfl
end
end Mi

set_option Elab.async false
set_option linter.all false
set_option maxRecDepth 100000
set_option maxHeartbeats 4000000
namespace Mi
open PySem L2

def topS (i : Nat) : Stmt := PySem.Challenge.pw_wordlines_k05_lands_told.main.body.getD i (.Pass ⟨0, 0, 0, 0⟩)
def clsS (i j : Nat) : Stmt := match topS i with
  | .ClassDef _ _ _ body .. => body.getD j (.Pass ⟨0, 0, 0, 0⟩)
  | s => s
abbrev s__law_purse : Stmt := topS 22
abbrev N__law_purse : List Str := [("_law_cell_here" : Str)]
theorem sc__law_purse : FnScope N__law_purse ["_law_cell_here"] (defScope s__law_purse) := C8.fnScope_by (by decide +kernel)
def m__law_purse : M Flow := (rtM (lstM (evC (bin addD (bin mulD (bin modD (vr 0) (cn (.int 1000000033))) (cn (.int 8009))) (cn (.int 4507))) (evC (bin ixF (lstM (evC (cn (.int 0)) (evC (vr 0) evN))) (bltM intF (evC (cmpV geB (vr 0) (bin powD (cn (.int 10)) (cn (.int 18)))) evN))) (evC (cn (.int 0)) evN)))))
def fn__law_purse : Fn := mkFn 1 m__law_purse
theorem ok__law_purse {P : Program} {w : World} {K : PySem.W.Frag} {mg : Str → Option Value} {base : Heap} {dvs : List V} {f : Addr} {fd : FuncData} (F : FunD K "_law_purse" "_law_purse" (defArgs s__law_purse) (defBody s__law_purse) (defScope s__law_purse) dvs [] f fd) (g_int : mg "int" = none) :
    FnOk P w K mg base (L2.CX P w) 1 f fd ["_law_cell_here"] (spOf K 1 fn__law_purse) := by
  refine fn_ok (N := N__law_purse) (m := m__law_purse) F sc__law_purse (by decide) fun cdv A outer s H E hr => ?_
  have tk := tk_cx (P := P) (w := w) (K := K) (mg := mg) (base := base) (qual := "_law_purse") (scope := defScope s__law_purse) (f := f) (N := N__law_purse) (cdv := cdv) (A := A) (outer := outer) (s := s) (H := H) (E := E)
  have ho := ps_cx (P := P) (w := w) (K := K) (mg := mg) (base := base) (qual := "_law_purse") (scope := defScope s__law_purse) (f := f) (N := N__law_purse) (cdv := cdv) (A := A) (outer := outer) (s := s) (H := H) (E := E)
  have hun := hr.un
  have hu : (cxOf (L2.CX P w) P w K mg base N__law_purse "_law_purse" (defScope s__law_purse) f cdv A outer s H E).A.units + 65 < cLine := by show (A.deeper _).units + 65 < cLine; omega
  have hu1 : (cxOf (L2.CX P w) P w K mg base N__law_purse "_law_purse" (defScope s__law_purse) f cdv A outer s H E).A.units + 1 < cLine := by show (A.deeper _).units + 1 < cLine; omega
  exact (css_one (cs_ret (ce_lst (ca_cons (ce_add (ce_mul (ce_mod (ce_var 0) ce_int) ce_int) ce_int) (ca_cons (ce_ix hu1 (ce_lst (ca_cons ce_int (ca_cons (ce_var 0) ca_nil))) (ce_intc rfl g_int (ca_cons (ce_ge (ce_var 0) (ce_pow ce_int ce_int)) ca_nil))) (ca_cons ce_int ca_nil))))))
abbrev s__law_cell : Stmt := topS 21
abbrev N__law_cell : List Str := [("_law_script" : Str), ("_law_k" : Str), ("_law_state" : Str), ("_law_cell_here" : Str)]
theorem sc__law_cell : FnScope N__law_cell ["_law_script", "_law_k"] (defScope s__law_cell) := C8.fnScope_by (by decide +kernel)
def m__law_cell : M Flow := (seqM (ifS (cmpT ltB (vr 1) (bltM lenG (evC (vr 0) evN))) (rtM (bin ixF (vr 0) (vr 1))) (ret .nx))
  (seqM (stM (setM 2) (bin modD (bin mulD (cn (.int 90007)) (bin addD (bin addD (bin mulD (vr 1) (vr 1)) (bin mulD (cn (.int 5)) (vr 1))) (cn (.int 11)))) (cn (.int 1000000033))))
  (seqM (forM (srcM (slM (vr 0) (ret none) (prtM (cn (.int 4))))) (setM 3) (stM (setM 2) (bin modD (bin addD (bin mulD (vr 2) (cn (.int 30029))) (vr 3)) (cn (.int 1000000033)))))
  (rtM (vr 2)))))
def fn__law_cell : Fn := mkFn 4 m__law_cell
theorem ok__law_cell {P : Program} {w : World} {K : PySem.W.Frag} {mg : Str → Option Value} {base : Heap} {dvs : List V} {f : Addr} {fd : FuncData} (F : FunD K "_law_cell" "_law_cell" (defArgs s__law_cell) (defBody s__law_cell) (defScope s__law_cell) dvs [] f fd) (g_len : mg "len" = none) :
    FnOk P w K mg base (L2.CX P w) 1 f fd ["_law_script", "_law_k"] (spOf K 2 fn__law_cell) := by
  refine fn_ok (N := N__law_cell) (m := m__law_cell) F sc__law_cell (by decide) fun cdv A outer s H E hr => ?_
  have tk := tk_cx (P := P) (w := w) (K := K) (mg := mg) (base := base) (qual := "_law_cell") (scope := defScope s__law_cell) (f := f) (N := N__law_cell) (cdv := cdv) (A := A) (outer := outer) (s := s) (H := H) (E := E)
  have ho := ps_cx (P := P) (w := w) (K := K) (mg := mg) (base := base) (qual := "_law_cell") (scope := defScope s__law_cell) (f := f) (N := N__law_cell) (cdv := cdv) (A := A) (outer := outer) (s := s) (H := H) (E := E)
  have hun := hr.un
  have hu : (cxOf (L2.CX P w) P w K mg base N__law_cell "_law_cell" (defScope s__law_cell) f cdv A outer s H E).A.units + 65 < cLine := by show (A.deeper _).units + 65 < cLine; omega
  have hu1 : (cxOf (L2.CX P w) P w K mg base N__law_cell "_law_cell" (defScope s__law_cell) f cdv A outer s H E).A.units + 1 < cLine := by show (A.deeper _).units + 1 < cLine; omega
  exact (css_cons (cs_if (ct_lt (ce_var 1) (ce_lenG rfl g_len (ca_cons (ce_var 0) ca_nil))) (css_one (cs_ret (ce_ix hu1 (ce_var 0) (ce_var 1)))) css_nil)
    (css_cons (cs_asg (ce_mod (ce_mul ce_int (ce_add (ce_add (ce_mul (ce_var 1) (ce_var 1)) (ce_mul ce_int (ce_var 1))) ce_int)) ce_int) (cg_name sc__law_cell.nd rfl (by first | exact Or.inl rfl | exact Or.inr rfl)))
    (css_cons (cs_for ho rfl (ci_any (ce_sl (ce_var 0) co_none (co_some ce_int))) (cg_name sc__law_cell.nd rfl (by first | exact Or.inl rfl | exact Or.inr rfl)) (css_one (cs_asg (ce_mod (ce_add (ce_mul (ce_var 2) ce_int) (ce_var 3)) ce_int) (cg_name sc__law_cell.nd rfl (by first | exact Or.inl rfl | exact Or.inr rfl)))))
    (css_one (cs_ret (ce_var 2))))))
abbrev s__law_pick : Stmt := topS 23
abbrev N__law_pick : List Str := [("_law_purse_here" : Str), ("_law_many" : Str), ("_law_state" : Str), ("_law_taken" : Str)]
theorem sc__law_pick : FnScope N__law_pick ["_law_purse_here", "_law_many"] (defScope s__law_pick) := C8.fnScope_by (by decide +kernel)
def m__law_pick : M Flow := (seqM (stM (idxG (vr 0) (cn (.int 2))) (bin addD (bin ixF (vr 0) (cn (.int 2))) (cn (.int 1))))
  (seqM (stM (setM 2) (bin modD (bin ixF (vr 0) (cn (.int 0))) (cn (.int 1000000033))))
  (seqM (stM (idxG (vr 0) (cn (.int 0))) (bin addD (bin mulD (vr 2) (bin addD (bin modD (vr 2) (cn (.int 60013))) (cn (.int 30011)))) (bin mulD (cn (.int 70001)) (bin ixF (vr 0) (cn (.int 2))))))
  (seqM (ifS (cmpT gtB (bin ixF (vr 0) (cn (.int 1))) (cn (.int 0))) (seqM (stM (setM 3) (bin modD (bin ixF (vr 0) (cn (.int 1))) (vr 1)))
  (seqM (stM (idxG (vr 0) (cn (.int 1))) (bin divD (bin ixF (vr 0) (cn (.int 1))) (vr 1)))
  (rtM (vr 3)))) (ret .nx))
  (rtM (bin modD (bin divD (bin modD (bin ixF (vr 0) (cn (.int 0))) (cn (.int 1000000033))) (cn (.int 16))) (vr 1)))))))
def fn__law_pick : Fn := mkFn 4 m__law_pick
theorem ok__law_pick {P : Program} {w : World} {K : PySem.W.Frag} {mg : Str → Option Value} {base : Heap} {dvs : List V} {f : Addr} {fd : FuncData} (F : FunD K "_law_pick" "_law_pick" (defArgs s__law_pick) (defBody s__law_pick) (defScope s__law_pick) dvs [] f fd) :
    FnOk P w K mg base (L2.CX P w) 1 f fd ["_law_purse_here", "_law_many"] (spOf K 2 fn__law_pick) := by
  refine fn_ok (N := N__law_pick) (m := m__law_pick) F sc__law_pick (by decide) fun cdv A outer s H E hr => ?_
  have tk := tk_cx (P := P) (w := w) (K := K) (mg := mg) (base := base) (qual := "_law_pick") (scope := defScope s__law_pick) (f := f) (N := N__law_pick) (cdv := cdv) (A := A) (outer := outer) (s := s) (H := H) (E := E)
  have ho := ps_cx (P := P) (w := w) (K := K) (mg := mg) (base := base) (qual := "_law_pick") (scope := defScope s__law_pick) (f := f) (N := N__law_pick) (cdv := cdv) (A := A) (outer := outer) (s := s) (H := H) (E := E)
  have hun := hr.un
  have hu : (cxOf (L2.CX P w) P w K mg base N__law_pick "_law_pick" (defScope s__law_pick) f cdv A outer s H E).A.units + 65 < cLine := by show (A.deeper _).units + 65 < cLine; omega
  have hu1 : (cxOf (L2.CX P w) P w K mg base N__law_pick "_law_pick" (defScope s__law_pick) f cdv A outer s H E).A.units + 1 < cLine := by show (A.deeper _).units + 1 < cLine; omega
  exact (css_cons (cs_asg (ce_add (ce_ix hu1 (ce_var 0) ce_int) ce_int) (cg_idx (wx := wxE E) hu1 (ce_var 0) ce_int))
    (css_cons (cs_asg (ce_mod (ce_ix hu1 (ce_var 0) ce_int) ce_int) (cg_name sc__law_pick.nd rfl (by first | exact Or.inl rfl | exact Or.inr rfl)))
    (css_cons (cs_asg (ce_add (ce_mul (ce_var 2) (ce_add (ce_mod (ce_var 2) ce_int) ce_int)) (ce_mul ce_int (ce_ix hu1 (ce_var 0) ce_int))) (cg_idx (wx := wxE E) hu1 (ce_var 0) ce_int))
    (css_cons (cs_if (ct_gt (ce_ix hu1 (ce_var 0) ce_int) ce_int) (css_cons (cs_asg (ce_mod (ce_ix hu1 (ce_var 0) ce_int) (ce_var 1)) (cg_name sc__law_pick.nd rfl (by first | exact Or.inl rfl | exact Or.inr rfl)))
    (css_cons (cs_asg (ce_div (ce_ix hu1 (ce_var 0) ce_int) (ce_var 1)) (cg_idx (wx := wxE E) hu1 (ce_var 0) ce_int))
    (css_one (cs_ret (ce_var 3))))) css_nil)
    (css_one (cs_ret (ce_mod (ce_div (ce_mod (ce_ix hu1 (ce_var 0) ce_int) ce_int) ce_int) (ce_var 1))))))))
abbrev s__law_menu : Stmt := topS 24
abbrev N__law_menu : List Str := [("_law_some" : Str)]
theorem sc__law_menu : FnScope N__law_menu [] (defScope s__law_menu) := C8.fnScope_by (by decide +kernel)
def m__law_menu : M Flow := (seqM (stM (setM 0) (lstM (evC (cn (.str "put")) (evC (cn (.str "doubt")) (evC (cn (.str "strike")) (evC (cn (.str "back")) (evC (cn (.str "change")) (evC (cn (.str "one")) (evC (cn (.str "map")) (evC (cn (.str "words")) (evC (cn (.str "parted")) (evC (cn (.str "line")) (evC (cn (.str "rings")) (evC (cn (.str "thin")) evN))))))))))))))
  (seqM (stM (setM 0) (bin addD (vr 0) (lstM (evC (cn (.str "fate")) (evC (cn (.str "asks")) (evC (cn (.str "habit")) (evC (cn (.str "apart")) (evC (cn (.str "near")) (evC (cn (.str "paper")) (evC (cn (.str "ok")) (evC (cn (.str "no")) (evC (cn (.str "none")) (evC (cn (.str "self")) (evC (cn (.str "may")) (evC (cn (.str "not")) evN)))))))))))))))
  (rtM (bin addD (vr 0) (lstM (evC (cn (.str "has")) (evC (cn (.str "any")) evN)))))))
def fn__law_menu : Fn := mkFn 1 m__law_menu
theorem ok__law_menu {P : Program} {w : World} {K : PySem.W.Frag} {mg : Str → Option Value} {base : Heap} {dvs : List V} {f : Addr} {fd : FuncData} (F : FunD K "_law_menu" "_law_menu" (defArgs s__law_menu) (defBody s__law_menu) (defScope s__law_menu) dvs [] f fd) :
    FnOk P w K mg base (L2.CX P w) 1 f fd [] (spOf K 0 fn__law_menu) := by
  refine fn_ok (N := N__law_menu) (m := m__law_menu) F sc__law_menu (by decide) fun cdv A outer s H E hr => ?_
  have tk := tk_cx (P := P) (w := w) (K := K) (mg := mg) (base := base) (qual := "_law_menu") (scope := defScope s__law_menu) (f := f) (N := N__law_menu) (cdv := cdv) (A := A) (outer := outer) (s := s) (H := H) (E := E)
  have ho := ps_cx (P := P) (w := w) (K := K) (mg := mg) (base := base) (qual := "_law_menu") (scope := defScope s__law_menu) (f := f) (N := N__law_menu) (cdv := cdv) (A := A) (outer := outer) (s := s) (H := H) (E := E)
  have hun := hr.un
  have hu : (cxOf (L2.CX P w) P w K mg base N__law_menu "_law_menu" (defScope s__law_menu) f cdv A outer s H E).A.units + 65 < cLine := by show (A.deeper _).units + 65 < cLine; omega
  have hu1 : (cxOf (L2.CX P w) P w K mg base N__law_menu "_law_menu" (defScope s__law_menu) f cdv A outer s H E).A.units + 1 < cLine := by show (A.deeper _).units + 1 < cLine; omega
  exact (css_cons (cs_asg (ce_lst (ca_cons ce_str (ca_cons ce_str (ca_cons ce_str (ca_cons ce_str (ca_cons ce_str (ca_cons ce_str (ca_cons ce_str (ca_cons ce_str (ca_cons ce_str (ca_cons ce_str (ca_cons ce_str (ca_cons ce_str ca_nil))))))))))))) (cg_name sc__law_menu.nd rfl (by first | exact Or.inl rfl | exact Or.inr rfl)))
    (css_cons (cs_asg (ce_add (ce_var 0) (ce_lst (ca_cons ce_str (ca_cons ce_str (ca_cons ce_str (ca_cons ce_str (ca_cons ce_str (ca_cons ce_str (ca_cons ce_str (ca_cons ce_str (ca_cons ce_str (ca_cons ce_str (ca_cons ce_str (ca_cons ce_str ca_nil)))))))))))))) (cg_name sc__law_menu.nd rfl (by first | exact Or.inl rfl | exact Or.inr rfl)))
    (css_one (cs_ret (ce_add (ce_var 0) (ce_lst (ca_cons ce_str (ca_cons ce_str ca_nil))))))))
abbrev s__law_word : Stmt := topS 25
abbrev N__law_word : List Str := [("_law_purse_here" : Str), ("_law_way" : Str), ("_law_wide" : Str), ("_law_size" : Str), ("_law_k" : Str)]
theorem sc__law_word : FnScope N__law_word ["_law_purse_here"] (defScope s__law_word) := C8.fnScope_by (by decide +kernel)
def m__law_word : M Flow := (seqM (stM (tupG 2 (setsC (setM 1) (setsC (setM 2) setsN))) (tupM (evC (callM fn__law_pick 2 [] (evC (vr 0) (evC (cn (.int 4)) evN))) (evC (bin ixF (lstM (evC (cn (.int 3)) (evC (cn (.int 5)) (evC (cn (.int 26)) evN)))) (callM fn__law_pick 2 [] (evC (vr 0) (evC (cn (.int 3)) evN)))) evN))))
  (seqM (ifS (cmpT eqB (vr 1) (cn (.int 0))) (rtM (bin ixF (callM fn__law_menu 0 [] evN) (callM fn__law_pick 2 [] (evC (vr 0) (evC (cn (.int 26)) evN))))) (ret .nx))
  (seqM (stM (setM 3) (bin ixF (lstM (evC (cn (.int 1)) (evC (cn (.int 2)) (evC (cn (.int 3)) (evC (cn (.int 4)) (evC (bin addD (cn (.int 1)) (callM fn__law_pick 2 [] (evC (vr 0) (evC (cn (.int 8)) evN)))) evN)))))) (callM fn__law_pick 2 [] (evC (vr 0) (evC (cn (.int 5)) evN)))))
  (rtM (smM joinF (cn (.str "")) (evC (lcM (rng1 (evC (vr 3) evN)) (setM 4) (ret true) (bin ixF (cn (.str "abcdefghijklmnopqrstuvwxyz")) (callM fn__law_pick 2 [] (evC (vr 0) (evC (vr 2) evN)))) [4]) evN))))))
def fn__law_word : Fn := mkFn 5 m__law_word
theorem ok__law_word {P : Program} {w : World} {K : PySem.W.Frag} {mg : Str → Option Value} {base : Heap} {dvs : List V} {f : Addr} {fd : FuncData} (F : FunD K "_law_word" "_law_word" (defArgs s__law_word) (defBody s__law_word) (defScope s__law_word) dvs [] f fd) (g_range : mg "range" = none) (c__law_menu : Cal P w K mg base 1 "_law_menu" 0 fn__law_menu []) (c__law_pick : Cal P w K mg base 1 "_law_pick" 2 fn__law_pick []) :
    FnOk P w K mg base (L2.CX P w) 2 f fd ["_law_purse_here"] (spOf K 1 fn__law_word) := by
  refine fn_ok (N := N__law_word) (m := m__law_word) F sc__law_word (by decide) fun cdv A outer s H E hr => ?_
  have tk := tk_cx (P := P) (w := w) (K := K) (mg := mg) (base := base) (qual := "_law_word") (scope := defScope s__law_word) (f := f) (N := N__law_word) (cdv := cdv) (A := A) (outer := outer) (s := s) (H := H) (E := E)
  have ho := ps_cx (P := P) (w := w) (K := K) (mg := mg) (base := base) (qual := "_law_word") (scope := defScope s__law_word) (f := f) (N := N__law_word) (cdv := cdv) (A := A) (outer := outer) (s := s) (H := H) (E := E)
  have hun := hr.un
  have hu : (cxOf (L2.CX P w) P w K mg base N__law_word "_law_word" (defScope s__law_word) f cdv A outer s H E).A.units + 65 < cLine := by show (A.deeper _).units + 65 < cLine; omega
  have hu1 : (cxOf (L2.CX P w) P w K mg base N__law_word "_law_word" (defScope s__law_word) f cdv A outer s H E).A.units + 1 < cLine := by show (A.deeper _).units + 1 < cLine; omega
  exact (css_cons (cs_asg (ce_tup (ca_cons (ce_c c__law_pick hr (by decide) tk rfl (ca_cons (ce_var 0) (ca_cons ce_int ca_nil))) (ca_cons (ce_ix hu1 (ce_lst (ca_cons ce_int (ca_cons ce_int (ca_cons ce_int ca_nil)))) (ce_c c__law_pick hr (by decide) tk rfl (ca_cons (ce_var 0) (ca_cons ce_int ca_nil)))) ca_nil))) (cg_tup rfl (cgs_cons (cg_name sc__law_word.nd rfl (by first | exact Or.inl rfl | exact Or.inr rfl)) (cgs_cons (cg_name sc__law_word.nd rfl (by first | exact Or.inl rfl | exact Or.inr rfl)) cgs_nil))))
    (css_cons (cs_if (ct_eq (ce_var 1) ce_int hu) (css_one (cs_ret (ce_ix hu1 (ce_c0 c__law_menu hr (by decide) tk rfl) (ce_c c__law_pick hr (by decide) tk rfl (ca_cons (ce_var 0) (ca_cons ce_int ca_nil)))))) css_nil)
    (css_cons (cs_asg (ce_ix hu1 (ce_lst (ca_cons ce_int (ca_cons ce_int (ca_cons ce_int (ca_cons ce_int (ca_cons (ce_add ce_int (ce_c c__law_pick hr (by decide) tk rfl (ca_cons (ce_var 0) (ca_cons ce_int ca_nil)))) ca_nil)))))) (ce_c c__law_pick hr (by decide) tk rfl (ca_cons (ce_var 0) (ca_cons ce_int ca_nil)))) (cg_name sc__law_word.nd rfl (by first | exact Or.inl rfl | exact Or.inr rfl)))
    (css_one (cs_ret (ce_join ce_str (ca_cons (ce_lc (own := [("_law_k", 4)]) rfl sc__law_word.nd (ci_range1 rfl g_range (ca_cons (ce_var 3) ca_nil)) (by refine blkOk_by (own := [("_law_k", 4)]) (N := N__law_word) (sc := (defScope s__law_word)) ?_; decide +kernel) (fun _ _ _ _ _ => (cg_name sc__law_word.nd rfl (by first | exact Or.inl rfl | exact Or.inr rfl))) (fun _ _ _ _ _ => cts_nil) (fun _ _ _ _ _ => (ce_ix hu1 ce_str (ce_c c__law_pick hr (by decide) tk_blk rfl (ca_cons (ce_var 0) (ca_cons (ce_var 2) ca_nil)))))) ca_nil)))))))
abbrev s__law_fresh : Stmt := topS 26
abbrev N__law_fresh : List Str := [("_law_purse_here" : Str), ("_law_used" : Str), ("_law_sound" : Str), ("_law_spare" : Str), ("_law_sign" : Str), ("_law_one" : Str)]
theorem sc__law_fresh : FnScope N__law_fresh ["_law_purse_here", "_law_used"] (defScope s__law_fresh) := C8.fnScope_by (by decide +kernel)
def m__law_fresh : M Flow := (seqM (stM (setM 2) (callM fn__law_word 1 [] (evC (vr 0) evN)))
  (seqM (ifS (cmpT ninB (vr 2) (vr 1)) (rtM (vr 2)) (ret .nx))
  (seqM (stM (setM 3) (lcM (srcM (cn (.str "abcdefghijklmnopqrstuvwxyz"))) (setM 4) (ret true) (bin addD (slM (vr 2) (ret none) (prtM (cn (.int 7)))) (vr 4)) [4]))
  (seqM (stM (setM 3) (bin addD (vr 3) (lcM (srcM (cn (.str "abcdefghijklm"))) (setM 4) (ret true) (bin addD (bin addD (slM (vr 2) (ret none) (prtM (cn (.int 6)))) (vr 4)) (cn (.str "z"))) [4])))
  (rtM (bin ixF (lcM (srcM (vr 3)) (setM 5) (cmpT ninB (vr 5) (vr 1)) (vr 5) [5]) (cn (.int 0))))))))
def fn__law_fresh : Fn := mkFn 6 m__law_fresh
theorem ok__law_fresh {P : Program} {w : World} {K : PySem.W.Frag} {mg : Str → Option Value} {base : Heap} {dvs : List V} {f : Addr} {fd : FuncData} (F : FunD K "_law_fresh" "_law_fresh" (defArgs s__law_fresh) (defBody s__law_fresh) (defScope s__law_fresh) dvs [] f fd) (c__law_word : Cal P w K mg base 2 "_law_word" 1 fn__law_word []) :
    FnOk P w K mg base (L2.CX P w) 3 f fd ["_law_purse_here", "_law_used"] (spOf K 2 fn__law_fresh) := by
  refine fn_ok (N := N__law_fresh) (m := m__law_fresh) F sc__law_fresh (by decide) fun cdv A outer s H E hr => ?_
  have tk := tk_cx (P := P) (w := w) (K := K) (mg := mg) (base := base) (qual := "_law_fresh") (scope := defScope s__law_fresh) (f := f) (N := N__law_fresh) (cdv := cdv) (A := A) (outer := outer) (s := s) (H := H) (E := E)
  have ho := ps_cx (P := P) (w := w) (K := K) (mg := mg) (base := base) (qual := "_law_fresh") (scope := defScope s__law_fresh) (f := f) (N := N__law_fresh) (cdv := cdv) (A := A) (outer := outer) (s := s) (H := H) (E := E)
  have hun := hr.un
  have hu : (cxOf (L2.CX P w) P w K mg base N__law_fresh "_law_fresh" (defScope s__law_fresh) f cdv A outer s H E).A.units + 65 < cLine := by show (A.deeper _).units + 65 < cLine; omega
  have hu1 : (cxOf (L2.CX P w) P w K mg base N__law_fresh "_law_fresh" (defScope s__law_fresh) f cdv A outer s H E).A.units + 1 < cLine := by show (A.deeper _).units + 1 < cLine; omega
  exact (css_cons (cs_asg (ce_c c__law_word hr (by decide) tk rfl (ca_cons (ce_var 0) ca_nil)) (cg_name sc__law_fresh.nd rfl (by first | exact Or.inl rfl | exact Or.inr rfl)))
    (css_cons (cs_if (ct_nin (ce_var 2) (ce_var 1) hu rfl) (css_one (cs_ret (ce_var 2))) css_nil)
    (css_cons (cs_setLc (own := [("_law_sign", 4)]) rfl sc__law_fresh.nd rfl rfl (sw_true rfl rfl rfl rfl) (Or.inl rfl) (ci_any ce_str) (by refine blkOk_by (own := [("_law_sign", 4)]) (N := N__law_fresh) (sc := (defScope s__law_fresh)) ?_; decide +kernel) (fun _ _ _ _ _ => (cg_name sc__law_fresh.nd rfl (by first | exact Or.inl rfl | exact Or.inr rfl))) (fun _ _ _ _ _ => cts_nil) (fun _ _ _ _ _ => (ce_add (ce_sl (ce_var 2) co_none (co_some ce_int)) (ce_var 4))))
    (css_cons (cs_asg (ce_add (ce_var 3) (ce_lc (own := [("_law_sign", 4)]) rfl sc__law_fresh.nd (ci_any ce_str) (by refine blkOk_by (own := [("_law_sign", 4)]) (N := N__law_fresh) (sc := (defScope s__law_fresh)) ?_; decide +kernel) (fun _ _ _ _ _ => (cg_name sc__law_fresh.nd rfl (by first | exact Or.inl rfl | exact Or.inr rfl))) (fun _ _ _ _ _ => cts_nil) (fun _ _ _ _ _ => (ce_add (ce_add (ce_sl (ce_var 2) co_none (co_some ce_int)) (ce_var 4)) ce_str)))) (cg_name sc__law_fresh.nd rfl (by first | exact Or.inl rfl | exact Or.inr rfl)))
    (css_one (cs_ret (ce_ix hu1 (ce_lc (own := [("_law_one", 5)]) rfl sc__law_fresh.nd (ci_any (ce_var 3)) (by refine blkOk_by (own := [("_law_one", 5)]) (N := N__law_fresh) (sc := (defScope s__law_fresh)) ?_; decide +kernel) (fun _ _ _ _ _ => (cg_name sc__law_fresh.nd rfl (by first | exact Or.inl rfl | exact Or.inr rfl))) (fun _ _ _ _ _ => (cts_one (ct_nin (ce_var 5) (ce_var 1) hu rfl))) (fun _ _ _ _ _ => (ce_var 5))) ce_int)))))))
abbrev s__law_land : Stmt := topS 27
abbrev N__law_land : List Str := [("_law_purse_here" : Str), ("_law_most" : Str), ("_law_high" : Str), ("_law_wide" : Str), ("_law_towns" : Str), ("_law_laid" : Str), ("_law_row" : Str), ("_law_parts" : Str), ("_law_column" : Str), ("_law_lake" : Str), ("_law_town" : Str)]
theorem sc__law_land : FnScope N__law_land ["_law_purse_here", "_law_most"] (defScope s__law_land) := C8.fnScope_by (by decide +kernel)
def m__law_land : M Flow := (seqM (parM3 2 3 4 (evC (bin addD (cn (.int 1)) (callM fn__law_pick 2 [] (evC (vr 0) (evC (vr 1) evN)))) (evC (bin addD (cn (.int 1)) (callM fn__law_pick 2 [] (evC (vr 0) (evC (vr 1) evN)))) (evC (lstM evN) evN))))
  (seqM (stM (setM 5) (lstM evN))
  (seqM (forM (rng1 (evC (vr 2) evN)) (setM 6) (seqM (stM (setM 7) (lstM evN))
  (seqM (forM (rng1 (evC (vr 3) evN)) (setM 8) (seqM (stM (setM 9) (andV (cmpV eqB (callM fn__law_pick 2 [] (evC (vr 0) (evC (cn (.int 6)) evN))) (cn (.int 5))) (orV (cmpV neB (vr 4) (lstM evN)) (cmpV ltB (bin addD (bin addD (vr 6) (vr 8)) (cn (.int 2))) (bin addD (vr 2) (vr 3))))))
  (seqM (stM (setM 10) (callM fn__law_fresh 2 [] (evC (vr 0) (evC (vr 4) evN))))
  (seqM (ifS (truM (vr 9)) (stM (setM 10) (cn .non)) (exM (lmM appendF (vr 4) (evC (vr 10) evN))))
  (exM (lmM appendF (vr 7) (evC (vr 10) evN)))))))
  (exM (lmM appendF (vr 5) (evC (bltM tupF (evC (vr 7) evN)) evN))))))
  (rtM (bltM tupF (evC (vr 5) evN))))))
def fn__law_land : Fn := mkFn 11 m__law_land
theorem ok__law_land {P : Program} {w : World} {K : PySem.W.Frag} {mg : Str → Option Value} {base : Heap} {dvs : List V} {f : Addr} {fd : FuncData} (F : FunD K "_law_land" "_law_land" (defArgs s__law_land) (defBody s__law_land) (defScope s__law_land) dvs [] f fd) (g_range : mg "range" = none) (g_tuple : mg "tuple" = none) (c__law_fresh : Cal P w K mg base 3 "_law_fresh" 2 fn__law_fresh []) (c__law_pick : Cal P w K mg base 1 "_law_pick" 2 fn__law_pick []) :
    FnOk P w K mg base (L2.CX P w) 4 f fd ["_law_purse_here", "_law_most"] (spOf K 2 fn__law_land) := by
  refine fn_ok (N := N__law_land) (m := m__law_land) F sc__law_land (by decide) fun cdv A outer s H E hr => ?_
  have tk := tk_cx (P := P) (w := w) (K := K) (mg := mg) (base := base) (qual := "_law_land") (scope := defScope s__law_land) (f := f) (N := N__law_land) (cdv := cdv) (A := A) (outer := outer) (s := s) (H := H) (E := E)
  have ho := ps_cx (P := P) (w := w) (K := K) (mg := mg) (base := base) (qual := "_law_land") (scope := defScope s__law_land) (f := f) (N := N__law_land) (cdv := cdv) (A := A) (outer := outer) (s := s) (H := H) (E := E)
  have hun := hr.un
  have hu : (cxOf (L2.CX P w) P w K mg base N__law_land "_law_land" (defScope s__law_land) f cdv A outer s H E).A.units + 65 < cLine := by show (A.deeper _).units + 65 < cLine; omega
  have hu1 : (cxOf (L2.CX P w) P w K mg base N__law_land "_law_land" (defScope s__law_land) f cdv A outer s H E).A.units + 1 < cLine := by show (A.deeper _).units + 1 < cLine; omega
  exact (css_cons (cs_par3 rfl sc__law_land.nd rfl rfl rfl (by decide) (by decide) (by decide) rfl rfl rfl (ca_cons (ce_add ce_int (ce_c c__law_pick hr (by decide) tk rfl (ca_cons (ce_var 0) (ca_cons (ce_var 1) ca_nil)))) (ca_cons (ce_add ce_int (ce_c c__law_pick hr (by decide) tk rfl (ca_cons (ce_var 0) (ca_cons (ce_var 1) ca_nil)))) (ca_cons (ce_lst ca_nil) ca_nil))) rfl)
    (css_cons (cs_asg (ce_lst ca_nil) (cg_name sc__law_land.nd rfl (by first | exact Or.inl rfl | exact Or.inr rfl)))
    (css_cons (cs_for ho rfl (ci_range1 rfl g_range (ca_cons (ce_var 2) ca_nil)) (cg_name sc__law_land.nd rfl (by first | exact Or.inl rfl | exact Or.inr rfl)) (css_cons (cs_asg (ce_lst ca_nil) (cg_name sc__law_land.nd rfl (by first | exact Or.inl rfl | exact Or.inr rfl)))
    (css_cons (cs_for ho rfl (ci_range1 rfl g_range (ca_cons (ce_var 3) ca_nil)) (cg_name sc__law_land.nd rfl (by first | exact Or.inl rfl | exact Or.inr rfl)) (css_cons (cs_asg (ce_and (ce_eq (ce_c c__law_pick hr (by decide) tk rfl (ca_cons (ce_var 0) (ca_cons ce_int ca_nil))) ce_int hu) (ce_one (ce_or (ce_ne (ce_var 4) (ce_lst ca_nil) hu) (ce_one (ce_lt (ce_add (ce_add (ce_var 6) (ce_var 8)) ce_int) (ce_add (ce_var 2) (ce_var 3))))))) (cg_name sc__law_land.nd rfl (by first | exact Or.inl rfl | exact Or.inr rfl)))
    (css_cons (cs_asg (ce_c c__law_fresh hr (by decide) tk rfl (ca_cons (ce_var 0) (ca_cons (ce_var 4) ca_nil))) (cg_name sc__law_land.nd rfl (by first | exact Or.inl rfl | exact Or.inr rfl)))
    (css_cons (cs_if (ct_tru (ce_var 9)) (css_one (cs_asg ce_non (cg_name sc__law_land.nd rfl (by first | exact Or.inl rfl | exact Or.inr rfl)))) (css_one (cs_expr (ce_append (ce_var 4) (ca_cons (ce_var 10) ca_nil)))))
    (css_one (cs_expr (ce_append (ce_var 7) (ca_cons (ce_var 10) ca_nil))))))))
    (css_one (cs_expr (ce_append (ce_var 5) (ca_cons (ce_tuplec rfl g_tuple (ca_cons (ce_var 7) ca_nil)) ca_nil)))))))
    (css_one (cs_ret (ce_tuplec rfl g_tuple (ca_cons (ce_var 5) ca_nil)))))))
abbrev s_is_row : Stmt := topS 10
abbrev N_is_row : List Str := [("thing" : Str), ("wide" : Str)]
theorem sc_is_row : FnScope N_is_row ["thing", "wide"] (defScope s_is_row) := C8.fnScope_by (by decide +kernel)
def m_is_row : M Flow := (rtM (andV (bltM isiF (evC (vr 0) (evC (cn (.ty "tuple")) evN))) (cmpV eqB (bltM lenG (evC (vr 0) evN)) (vr 1))))
def fn_is_row : Fn := mkFn 2 m_is_row
theorem ok_is_row {P : Program} {w : World} {K : PySem.W.Frag} {mg : Str → Option Value} {base : Heap} {dvs : List V} {f : Addr} {fd : FuncData} (F : FunD K "is_row" "is_row" (defArgs s_is_row) (defBody s_is_row) (defScope s_is_row) dvs [] f fd) (g_isinstance : mg "isinstance" = none) (g_len : mg "len" = none) (g_tuple : mg "tuple" = none) :
    FnOk P w K mg base (L2.CX P w) 1 f fd ["thing", "wide"] (spOf K 2 fn_is_row) := by
  refine fn_ok (N := N_is_row) (m := m_is_row) F sc_is_row (by decide) fun cdv A outer s H E hr => ?_
  have tk := tk_cx (P := P) (w := w) (K := K) (mg := mg) (base := base) (qual := "is_row") (scope := defScope s_is_row) (f := f) (N := N_is_row) (cdv := cdv) (A := A) (outer := outer) (s := s) (H := H) (E := E)
  have ho := ps_cx (P := P) (w := w) (K := K) (mg := mg) (base := base) (qual := "is_row") (scope := defScope s_is_row) (f := f) (N := N_is_row) (cdv := cdv) (A := A) (outer := outer) (s := s) (H := H) (E := E)
  have hun := hr.un
  have hu : (cxOf (L2.CX P w) P w K mg base N_is_row "is_row" (defScope s_is_row) f cdv A outer s H E).A.units + 65 < cLine := by show (A.deeper _).units + 65 < cLine; omega
  have hu1 : (cxOf (L2.CX P w) P w K mg base N_is_row "is_row" (defScope s_is_row) f cdv A outer s H E).A.units + 1 < cLine := by show (A.deeper _).units + 1 < cLine; omega
  exact (css_one (cs_ret (ce_and (ce_isi rfl g_isinstance (ca_cons (ce_var 0) (ca_cons (ce_tyn rfl g_tuple (by decide +kernel)) ca_nil))) (ce_one (ce_eq (ce_lenG rfl g_len (ca_cons (ce_var 0) ca_nil)) (ce_var 1) hu)))))
abbrev s_are_laid : Stmt := topS 11
abbrev N_are_laid : List Str := [("thing" : Str), ("wide" : Str), ("row" : Str)]
theorem sc_are_laid : FnScope N_are_laid ["thing"] (defScope s_are_laid) := C8.fnScope_by (by decide +kernel)
def m_are_laid : M Flow := (seqM (ifS (orT (notT (truM (bltM isiF (evC (vr 0) (evC (cn (.ty "tuple")) evN))))) (orT (notT (chT leB leB (cn (.int 1)) (bltM lenG (evC (vr 0) evN)) (cn (.int 6)))) (notT (truM (bltM isiF (evC (bin ixF (vr 0) (cn (.int 0))) (evC (cn (.ty "tuple")) evN))))))) (rtM (cn (.bl false))) (ret .nx))
  (seqM (stM (setM 1) (bltM lenG (evC (bin ixF (vr 0) (cn (.int 0))) evN)))
  (rtM (andV (chV leB leB (cn (.int 1)) (vr 1) (cn (.int 6))) (bltM allF (evC (lcM (srcM (vr 0)) (setM 2) (ret true) (callM fn_is_row 2 [] (evC (vr 2) (evC (vr 1) evN))) [2]) evN))))))
def fn_are_laid : Fn := mkFn 3 m_are_laid
theorem ok_are_laid {P : Program} {w : World} {K : PySem.W.Frag} {mg : Str → Option Value} {base : Heap} {dvs : List V} {f : Addr} {fd : FuncData} (F : FunD K "are_laid" "are_laid" (defArgs s_are_laid) (defBody s_are_laid) (defScope s_are_laid) dvs [] f fd) (g_MOST_SIDE : ∃ t, mg "MOST_SIDE" = some (.int 6 t)) (g_all : mg "all" = none) (g_isinstance : mg "isinstance" = none) (g_len : mg "len" = none) (g_tuple : mg "tuple" = none) (c_is_row : Cal P w K mg base 1 "is_row" 2 fn_is_row []) :
    FnOk P w K mg base (L2.CX P w) 2 f fd ["thing"] (spOf K 1 fn_are_laid) := by
  refine fn_ok (N := N_are_laid) (m := m_are_laid) F sc_are_laid (by decide) fun cdv A outer s H E hr => ?_
  have tk := tk_cx (P := P) (w := w) (K := K) (mg := mg) (base := base) (qual := "are_laid") (scope := defScope s_are_laid) (f := f) (N := N_are_laid) (cdv := cdv) (A := A) (outer := outer) (s := s) (H := H) (E := E)
  have ho := ps_cx (P := P) (w := w) (K := K) (mg := mg) (base := base) (qual := "are_laid") (scope := defScope s_are_laid) (f := f) (N := N_are_laid) (cdv := cdv) (A := A) (outer := outer) (s := s) (H := H) (E := E)
  have hun := hr.un
  have hu : (cxOf (L2.CX P w) P w K mg base N_are_laid "are_laid" (defScope s_are_laid) f cdv A outer s H E).A.units + 65 < cLine := by show (A.deeper _).units + 65 < cLine; omega
  have hu1 : (cxOf (L2.CX P w) P w K mg base N_are_laid "are_laid" (defScope s_are_laid) f cdv A outer s H E).A.units + 1 < cLine := by show (A.deeper _).units + 1 < cLine; omega
  exact (css_cons (cs_if (ct_ofW (cw_or (ct_not (ct_tru (ce_isi rfl g_isinstance (ca_cons (ce_var 0) (ca_cons (ce_tyn rfl g_tuple (by decide +kernel)) ca_nil))))) (cw_or (ct_not (ct_ch op_leA op_leA bin_le bin_le ce_int (ce_lenG rfl g_len (ca_cons (ce_var 0) ca_nil)) (ce_gint rfl g_MOST_SIDE))) (cw_or1 (ct_not (ct_tru (ce_isi rfl g_isinstance (ca_cons (ce_ix hu1 (ce_var 0) ce_int) (ca_cons (ce_tyn rfl g_tuple (by decide +kernel)) ca_nil))))))))) (css_one (cs_ret ce_bl)) css_nil)
    (css_cons (cs_asg (ce_lenG rfl g_len (ca_cons (ce_ix hu1 (ce_var 0) ce_int) ca_nil)) (cg_name sc_are_laid.nd rfl (by first | exact Or.inl rfl | exact Or.inr rfl)))
    (css_one (cs_ret (ce_and (ce_ch op_leA op_leA bin_le bin_le ce_int (ce_var 1) (ce_gint rfl g_MOST_SIDE)) (ce_one (ce_allc rfl rfl g_all (ca_cons (ce_lc (own := [("row", 2)]) rfl sc_are_laid.nd (ci_any (ce_var 0)) (by refine blkOk_by (own := [("row", 2)]) (N := N_are_laid) (sc := (defScope s_are_laid)) ?_; decide +kernel) (fun _ _ _ _ _ => (cg_name sc_are_laid.nd rfl (by first | exact Or.inl rfl | exact Or.inr rfl))) (fun _ _ _ _ _ => cts_nil) (fun _ _ _ _ _ => (ce_c c_is_row hr (by decide) tk_blk rfl (ca_cons (ce_var 2) (ca_cons (ce_var 1) ca_nil))))) ca_nil))))))))
abbrev s_is_word : Stmt := topS 7
abbrev N_is_word : List Str := [("thing" : Str), ("sign" : Str)]
theorem sc_is_word : FnScope N_is_word ["thing"] (defScope s_is_word) := C8.fnScope_by (by decide +kernel)
def m_is_word : M Flow := (seqM (ifS (orT (notT (truM (bltM isiF (evC (vr 0) (evC (cn (.ty "str")) evN))))) (notT (chT leB leB (cn (.int 1)) (bltM lenG (evC (vr 0) evN)) (cn (.int 8))))) (rtM (cn (.bl false))) (ret .nx))
  (rtM (bltM allF (evC (lcM (srcM (vr 0)) (setM 1) (ret true) (cmpV inB (vr 1) (cn (.str "abcdefghijklmnopqrstuvwxyz"))) [1]) evN))))
def fn_is_word : Fn := mkFn 2 m_is_word
theorem ok_is_word {P : Program} {w : World} {K : PySem.W.Frag} {mg : Str → Option Value} {base : Heap} {dvs : List V} {f : Addr} {fd : FuncData} (F : FunD K "is_word" "is_word" (defArgs s_is_word) (defBody s_is_word) (defScope s_is_word) dvs [] f fd) (g_LETTERS : ∃ t, mg "LETTERS" = some (.str "abcdefghijklmnopqrstuvwxyz" t)) (g_MOST_LETTERS : ∃ t, mg "MOST_LETTERS" = some (.int 8 t)) (g_all : mg "all" = none) (g_isinstance : mg "isinstance" = none) (g_len : mg "len" = none) (g_str : mg "str" = none) :
    FnOk P w K mg base (L2.CX P w) 1 f fd ["thing"] (spOf K 1 fn_is_word) := by
  refine fn_ok (N := N_is_word) (m := m_is_word) F sc_is_word (by decide) fun cdv A outer s H E hr => ?_
  have tk := tk_cx (P := P) (w := w) (K := K) (mg := mg) (base := base) (qual := "is_word") (scope := defScope s_is_word) (f := f) (N := N_is_word) (cdv := cdv) (A := A) (outer := outer) (s := s) (H := H) (E := E)
  have ho := ps_cx (P := P) (w := w) (K := K) (mg := mg) (base := base) (qual := "is_word") (scope := defScope s_is_word) (f := f) (N := N_is_word) (cdv := cdv) (A := A) (outer := outer) (s := s) (H := H) (E := E)
  have hun := hr.un
  have hu : (cxOf (L2.CX P w) P w K mg base N_is_word "is_word" (defScope s_is_word) f cdv A outer s H E).A.units + 65 < cLine := by show (A.deeper _).units + 65 < cLine; omega
  have hu1 : (cxOf (L2.CX P w) P w K mg base N_is_word "is_word" (defScope s_is_word) f cdv A outer s H E).A.units + 1 < cLine := by show (A.deeper _).units + 1 < cLine; omega
  exact (css_cons (cs_if (ct_ofW (cw_or (ct_not (ct_tru (ce_isi rfl g_isinstance (ca_cons (ce_var 0) (ca_cons (ce_tyn rfl g_str (by decide +kernel)) ca_nil))))) (cw_or1 (ct_not (ct_ch op_leA op_leA bin_le bin_le ce_int (ce_lenG rfl g_len (ca_cons (ce_var 0) ca_nil)) (ce_gint rfl g_MOST_LETTERS)))))) (css_one (cs_ret ce_bl)) css_nil)
    (css_one (cs_ret (ce_allc rfl rfl g_all (ca_cons (ce_lc (own := [("sign", 1)]) rfl sc_is_word.nd (ci_any (ce_var 0)) (by refine blkOk_by (own := [("sign", 1)]) (N := N_is_word) (sc := (defScope s_is_word)) ?_; decide +kernel) (fun _ _ _ _ _ => (cg_name sc_is_word.nd rfl (by first | exact Or.inl rfl | exact Or.inr rfl))) (fun _ _ _ _ _ => cts_nil) (fun _ _ _ _ _ => (ce_in (ce_var 1) (ce_gstr rfl g_LETTERS) hu rfl))) ca_nil)))))
abbrev s_are_rows : Stmt := topS 12
abbrev N_are_rows : List Str := [("thing" : Str), ("known" : Str), ("row" : Str), ("parts" : Str), ("column" : Str), ("name" : Str)]
theorem sc_are_rows : FnScope N_are_rows ["thing"] (defScope s_are_rows) := C8.fnScope_by (by decide +kernel)
def m_are_rows : M Flow := (seqM (ifS (notT (truM (callM fn_are_laid 1 [] (evC (vr 0) evN)))) (rtM (lstM (evC (cn .non) evN))) (ret .nx))
  (seqM (stM (setM 1) (ret (.val (.dct []) 1)))
  (seqM (forM (enumM (evC (vr 0) evN)) (tupG 2 (setsC (setM 2) (setsC (setM 3) setsN))) (forM (enumM (evC (vr 3) evN)) (tupG 2 (setsC (setM 4) (setsC (setM 5) setsN))) (seqM (ifS (cmpT isB (vr 5) (cn .non)) (ret .ct) (ret .nx))
  (seqM (ifS (orT (notT (truM (callM fn_is_word 1 [] (evC (vr 5) evN)))) (cmpT inB (vr 5) (vr 1))) (rtM (lstM (evC (tupM (evC (vr 2) (evC (vr 4) evN))) evN))) (ret .nx))
  (stM (idxG (vr 1) (vr 5)) (cn (.bl true)))))))
  (rtM (ifV (cmpT gtB (bltM lenG (evC (vr 1) evN)) (cn (.int 0))) (cn .non) (lstM (evC (cn .non) evN)))))))
def fn_are_rows : Fn := mkFn 6 m_are_rows
theorem ok_are_rows {P : Program} {w : World} {K : PySem.W.Frag} {mg : Str → Option Value} {base : Heap} {dvs : List V} {f : Addr} {fd : FuncData} (F : FunD K "are_rows" "are_rows" (defArgs s_are_rows) (defBody s_are_rows) (defScope s_are_rows) dvs [] f fd) (g_enumerate : mg "enumerate" = none) (g_len : mg "len" = none) (c_are_laid : Cal P w K mg base 2 "are_laid" 1 fn_are_laid []) (c_is_word : Cal P w K mg base 1 "is_word" 1 fn_is_word []) :
    FnOk P w K mg base (L2.CX P w) 3 f fd ["thing"] (spOf K 1 fn_are_rows) := by
  refine fn_ok (N := N_are_rows) (m := m_are_rows) F sc_are_rows (by decide) fun cdv A outer s H E hr => ?_
  have tk := tk_cx (P := P) (w := w) (K := K) (mg := mg) (base := base) (qual := "are_rows") (scope := defScope s_are_rows) (f := f) (N := N_are_rows) (cdv := cdv) (A := A) (outer := outer) (s := s) (H := H) (E := E)
  have ho := ps_cx (P := P) (w := w) (K := K) (mg := mg) (base := base) (qual := "are_rows") (scope := defScope s_are_rows) (f := f) (N := N_are_rows) (cdv := cdv) (A := A) (outer := outer) (s := s) (H := H) (E := E)
  have hun := hr.un
  have hu : (cxOf (L2.CX P w) P w K mg base N_are_rows "are_rows" (defScope s_are_rows) f cdv A outer s H E).A.units + 65 < cLine := by show (A.deeper _).units + 65 < cLine; omega
  have hu1 : (cxOf (L2.CX P w) P w K mg base N_are_rows "are_rows" (defScope s_are_rows) f cdv A outer s H E).A.units + 1 < cLine := by show (A.deeper _).units + 1 < cLine; omega
  exact (css_cons (cs_if (ct_not (ct_tru (ce_c c_are_laid hr (by decide) tk rfl (ca_cons (ce_var 0) ca_nil)))) (css_one (cs_ret (ce_lst (ca_cons ce_non ca_nil)))) css_nil)
    (css_cons (cs_asg ce_dct0 (cg_name sc_are_rows.nd rfl (by first | exact Or.inl rfl | exact Or.inr rfl)))
    (css_cons (cs_for ho rfl (ci_enum rfl g_enumerate (ca_cons (ce_var 0) ca_nil)) (cg_tup rfl (cgs_cons (cg_name sc_are_rows.nd rfl (by first | exact Or.inl rfl | exact Or.inr rfl)) (cgs_cons (cg_name sc_are_rows.nd rfl (by first | exact Or.inl rfl | exact Or.inr rfl)) cgs_nil))) (css_one (cs_for ho rfl (ci_enum rfl g_enumerate (ca_cons (ce_var 3) ca_nil)) (cg_tup rfl (cgs_cons (cg_name sc_are_rows.nd rfl (by first | exact Or.inl rfl | exact Or.inr rfl)) (cgs_cons (cg_name sc_are_rows.nd rfl (by first | exact Or.inl rfl | exact Or.inr rfl)) cgs_nil))) (css_cons (cs_if (ct_is (ce_var 5) ce_non) (css_one cs_cont) css_nil)
    (css_cons (cs_if (ct_ofW (cw_or (ct_not (ct_tru (ce_c c_is_word hr (by decide) tk rfl (ca_cons (ce_var 5) ca_nil)))) (cw_or1 (ct_in (ce_var 5) (ce_var 1) hu rfl)))) (css_one (cs_ret (ce_lst (ca_cons (ce_tup (ca_cons (ce_var 2) (ca_cons (ce_var 4) ca_nil))) ca_nil)))) css_nil)
    (css_one (cs_asg ce_bl (cg_idx (wx := wxE E) hu1 (ce_var 1) (ce_var 5)))))))))
    (css_one (cs_ret (ce_if (ct_gt (ce_lenG rfl g_len (ca_cons (ce_var 1) ca_nil)) ce_int) ce_non (ce_lst (ca_cons ce_non ca_nil))))))))
abbrev s_spots_of : Stmt := topS 13
abbrev N_spots_of : List Str := [("rows" : Str), ("found" : Str), ("row" : Str), ("parts" : Str), ("column" : Str), ("name" : Str)]
theorem sc_spots_of : FnScope N_spots_of ["rows"] (defScope s_spots_of) := C8.fnScope_by (by decide +kernel)
def m_spots_of : M Flow := (seqM (stM (setM 1) (ret (.val (.dct []) 1)))
  (seqM (forM (enumM (evC (vr 0) evN)) (tupG 2 (setsC (setM 2) (setsC (setM 3) setsN))) (forM (enumM (evC (vr 3) evN)) (tupG 2 (setsC (setM 4) (setsC (setM 5) setsN))) (ifS (cmpT nisB (vr 5) (cn .non)) (stM (idxG (vr 1) (vr 5)) (tupM (evC (vr 2) (evC (vr 4) evN)))) (ret .nx))))
  (rtM (vr 1))))
def fn_spots_of : Fn := mkFn 6 m_spots_of
theorem ok_spots_of {P : Program} {w : World} {K : PySem.W.Frag} {mg : Str → Option Value} {base : Heap} {dvs : List V} {f : Addr} {fd : FuncData} (F : FunD K "spots_of" "spots_of" (defArgs s_spots_of) (defBody s_spots_of) (defScope s_spots_of) dvs [] f fd) (g_enumerate : mg "enumerate" = none) :
    FnOk P w K mg base (L2.CX P w) 1 f fd ["rows"] (spOf K 1 fn_spots_of) := by
  refine fn_ok (N := N_spots_of) (m := m_spots_of) F sc_spots_of (by decide) fun cdv A outer s H E hr => ?_
  have tk := tk_cx (P := P) (w := w) (K := K) (mg := mg) (base := base) (qual := "spots_of") (scope := defScope s_spots_of) (f := f) (N := N_spots_of) (cdv := cdv) (A := A) (outer := outer) (s := s) (H := H) (E := E)
  have ho := ps_cx (P := P) (w := w) (K := K) (mg := mg) (base := base) (qual := "spots_of") (scope := defScope s_spots_of) (f := f) (N := N_spots_of) (cdv := cdv) (A := A) (outer := outer) (s := s) (H := H) (E := E)
  have hun := hr.un
  have hu : (cxOf (L2.CX P w) P w K mg base N_spots_of "spots_of" (defScope s_spots_of) f cdv A outer s H E).A.units + 65 < cLine := by show (A.deeper _).units + 65 < cLine; omega
  have hu1 : (cxOf (L2.CX P w) P w K mg base N_spots_of "spots_of" (defScope s_spots_of) f cdv A outer s H E).A.units + 1 < cLine := by show (A.deeper _).units + 1 < cLine; omega
  exact (css_cons (cs_asg ce_dct0 (cg_name sc_spots_of.nd rfl (by first | exact Or.inl rfl | exact Or.inr rfl)))
    (css_cons (cs_for ho rfl (ci_enum rfl g_enumerate (ca_cons (ce_var 0) ca_nil)) (cg_tup rfl (cgs_cons (cg_name sc_spots_of.nd rfl (by first | exact Or.inl rfl | exact Or.inr rfl)) (cgs_cons (cg_name sc_spots_of.nd rfl (by first | exact Or.inl rfl | exact Or.inr rfl)) cgs_nil))) (css_one (cs_for ho rfl (ci_enum rfl g_enumerate (ca_cons (ce_var 3) ca_nil)) (cg_tup rfl (cgs_cons (cg_name sc_spots_of.nd rfl (by first | exact Or.inl rfl | exact Or.inr rfl)) (cgs_cons (cg_name sc_spots_of.nd rfl (by first | exact Or.inl rfl | exact Or.inr rfl)) cgs_nil))) (css_one (cs_if (ct_nis (ce_var 5) ce_non) (css_one (cs_asg (ce_tup (ca_cons (ce_var 2) (ca_cons (ce_var 4) ca_nil))) (cg_idx (wx := wxE E) hu1 (ce_var 1) (ce_var 5)))) css_nil)))))
    (css_one (cs_ret (ce_var 1)))))
abbrev s_Land_init : Stmt := clsS 19 0
abbrev N_Land_init : List Str := [("self" : Str), ("rows" : Str), ("wrong" : Str)]
theorem sc_Land_init : FnScope N_Land_init ["self", "rows"] (defScope s_Land_init) := C8.fnScope_by (by decide +kernel)
def m_Land_init : M Flow := (seqM (stM (setM 2) (callM fn_are_rows 1 [] (evC (vr 1) evN)))
  (seqM (ifS (cmpT nisB (vr 2) (cn .non)) stuck (ret .nx))
  (seqM (fldM ["Land"] "rows" (vr 0) (frzM (vr 1)))
  (fldM ["Land"] "spots" (vr 0) (frzM (callM fn_spots_of 1 [] (evC (vr 1) evN)))))))
def fn_Land_init : Fn := mkFn 3 m_Land_init
theorem ok_Land_init {P : Program} {w : World} {K : PySem.W.Frag} {mg : Str → Option Value} {base : Heap} {dvs : List V} {f : Addr} {fd : FuncData} (F : FunD K "__init__" "Land.__init__" (defArgs s_Land_init) (defBody s_Land_init) (defScope s_Land_init) dvs [] f fd) (hf_rows : ∀ c ∈ (["Land"] : List Str), Cls K (He.ga K c) ∧ NoAttr K (He.ga K c) "rows") (hf_spots : ∀ c ∈ (["Land"] : List Str), Cls K (He.ga K c) ∧ NoAttr K (He.ga K c) "spots") (c_are_rows : Cal P w K mg base 3 "are_rows" 1 fn_are_rows []) (c_spots_of : Cal P w K mg base 1 "spots_of" 1 fn_spots_of []) :
    FnOk P w K mg base (L2.CX P w) 4 f fd ["self", "rows"] (spOf K 2 fn_Land_init) := by
  refine fn_ok (N := N_Land_init) (m := m_Land_init) F sc_Land_init (by decide) fun cdv A outer s H E hr => ?_
  have tk := tk_cx (P := P) (w := w) (K := K) (mg := mg) (base := base) (qual := "Land.__init__") (scope := defScope s_Land_init) (f := f) (N := N_Land_init) (cdv := cdv) (A := A) (outer := outer) (s := s) (H := H) (E := E)
  have ho := ps_cx (P := P) (w := w) (K := K) (mg := mg) (base := base) (qual := "Land.__init__") (scope := defScope s_Land_init) (f := f) (N := N_Land_init) (cdv := cdv) (A := A) (outer := outer) (s := s) (H := H) (E := E)
  have hun := hr.un
  have hu : (cxOf (L2.CX P w) P w K mg base N_Land_init "Land.__init__" (defScope s_Land_init) f cdv A outer s H E).A.units + 65 < cLine := by show (A.deeper _).units + 65 < cLine; omega
  have hu1 : (cxOf (L2.CX P w) P w K mg base N_Land_init "Land.__init__" (defScope s_Land_init) f cdv A outer s H E).A.units + 1 < cLine := by show (A.deeper _).units + 1 < cLine; omega
  exact (css_cons (cs_asg (ce_c c_are_rows hr (by decide) tk rfl (ca_cons (ce_var 1) ca_nil)) (cg_name sc_Land_init.nd rfl (by first | exact Or.inl rfl | exact Or.inr rfl)))
    (css_cons (cs_if (ct_nis (ce_var 2) ce_non) (css_one cs_stuck) css_nil)
    (css_cons (cs_fld hf_rows (ce_var 0) (ce_frz (ce_var 1)))
    (css_one (cs_fld hf_spots (ce_var 0) (ce_frz (ce_c c_spots_of hr (by decide) tk rfl (ca_cons (ce_var 1) ca_nil))))))))
abbrev s_Land_has_village : Stmt := clsS 19 5
abbrev N_Land_has_village : List Str := [("self" : Str), ("name" : Str)]
theorem sc_Land_has_village : FnScope N_Land_has_village ["self", "name"] (defScope s_Land_has_village) := C8.fnScope_by (by decide +kernel)
def m_Land_has_village : M Flow := (rtM (andV (bltM isiF (evC (vr 1) (evC (cn (.ty "str")) evN))) (cmpV inB (vr 1) (attM ["Land"] "spots" (vr 0)))))
def fn_Land_has_village : Fn := mkFn 2 m_Land_has_village
theorem ok_Land_has_village {P : Program} {w : World} {K : PySem.W.Frag} {mg : Str → Option Value} {base : Heap} {dvs : List V} {f : Addr} {fd : FuncData} (F : FunD K "has_village" "Land.has_village" (defArgs s_Land_has_village) (defBody s_Land_has_village) (defScope s_Land_has_village) dvs [] f fd) (g_isinstance : mg "isinstance" = none) (g_str : mg "str" = none) (hf_spots : ∀ c ∈ (["Land"] : List Str), Cls K (He.ga K c) ∧ NoAttr K (He.ga K c) "spots") :
    FnOk P w K mg base (L2.CX P w) 1 f fd ["self", "name"] (spOf K 2 fn_Land_has_village) := by
  refine fn_ok (N := N_Land_has_village) (m := m_Land_has_village) F sc_Land_has_village (by decide) fun cdv A outer s H E hr => ?_
  have tk := tk_cx (P := P) (w := w) (K := K) (mg := mg) (base := base) (qual := "Land.has_village") (scope := defScope s_Land_has_village) (f := f) (N := N_Land_has_village) (cdv := cdv) (A := A) (outer := outer) (s := s) (H := H) (E := E)
  have ho := ps_cx (P := P) (w := w) (K := K) (mg := mg) (base := base) (qual := "Land.has_village") (scope := defScope s_Land_has_village) (f := f) (N := N_Land_has_village) (cdv := cdv) (A := A) (outer := outer) (s := s) (H := H) (E := E)
  have hun := hr.un
  have hu : (cxOf (L2.CX P w) P w K mg base N_Land_has_village "Land.has_village" (defScope s_Land_has_village) f cdv A outer s H E).A.units + 65 < cLine := by show (A.deeper _).units + 65 < cLine; omega
  have hu1 : (cxOf (L2.CX P w) P w K mg base N_Land_has_village "Land.has_village" (defScope s_Land_has_village) f cdv A outer s H E).A.units + 1 < cLine := by show (A.deeper _).units + 1 < cLine; omega
  exact (css_one (cs_ret (ce_and (ce_isi rfl g_isinstance (ca_cons (ce_var 1) (ca_cons (ce_tyn rfl g_str (by decide +kernel)) ca_nil))) (ce_one (ce_in (ce_var 1) (ce_att hf_spots (ce_var 0)) hu rfl)))))
abbrev s_Land_check_village : Stmt := clsS 19 6
abbrev N_Land_check_village : List Str := [("self" : Str), ("name" : Str)]
theorem sc_Land_check_village : FnScope N_Land_check_village ["self", "name"] (defScope s_Land_check_village) := C8.fnScope_by (by decide +kernel)
def m_Land_check_village : M Flow := (ifS (notT (truM (methM ["Land"] "has_village" fn_Land_has_village 2 [] (vr 0) (evC (vr 1) evN)))) stuck (ret .nx))
def fn_Land_check_village : Fn := mkFn 2 m_Land_check_village
theorem ok_Land_check_village {P : Program} {w : World} {K : PySem.W.Frag} {mg : Str → Option Value} {base : Heap} {dvs : List V} {f : Addr} {fd : FuncData} (F : FunD K "check_village" "Land.check_village" (defArgs s_Land_check_village) (defBody s_Land_check_village) (defScope s_Land_check_village) dvs [] f fd) (mt_Land_has_village : CalM P w K mg base 1 "Land" "has_village" 2 fn_Land_has_village []) :
    FnOk P w K mg base (L2.CX P w) 2 f fd ["self", "name"] (spOf K 2 fn_Land_check_village) := by
  refine fn_ok (N := N_Land_check_village) (m := m_Land_check_village) F sc_Land_check_village (by decide) fun cdv A outer s H E hr => ?_
  have tk := tk_cx (P := P) (w := w) (K := K) (mg := mg) (base := base) (qual := "Land.check_village") (scope := defScope s_Land_check_village) (f := f) (N := N_Land_check_village) (cdv := cdv) (A := A) (outer := outer) (s := s) (H := H) (E := E)
  have ho := ps_cx (P := P) (w := w) (K := K) (mg := mg) (base := base) (qual := "Land.check_village") (scope := defScope s_Land_check_village) (f := f) (N := N_Land_check_village) (cdv := cdv) (A := A) (outer := outer) (s := s) (H := H) (E := E)
  have hun := hr.un
  have hu : (cxOf (L2.CX P w) P w K mg base N_Land_check_village "Land.check_village" (defScope s_Land_check_village) f cdv A outer s H E).A.units + 65 < cLine := by show (A.deeper _).units + 65 < cLine; omega
  have hu1 : (cxOf (L2.CX P w) P w K mg base N_Land_check_village "Land.check_village" (defScope s_Land_check_village) f cdv A outer s H E).A.units + 1 < cLine := by show (A.deeper _).units + 1 < cLine; omega
  exact (css_one (cs_if (ct_not (ct_tru (ce_mt mt_Land_has_village hr (by decide) tk (ce_var 0) (ca_cons (ce_var 1) ca_nil)))) (css_one cs_stuck) css_nil))
abbrev s_Land_spot : Stmt := clsS 19 8
abbrev N_Land_spot : List Str := [("self" : Str), ("name" : Str)]
theorem sc_Land_spot : FnScope N_Land_spot ["self", "name"] (defScope s_Land_spot) := C8.fnScope_by (by decide +kernel)
def m_Land_spot : M Flow := (seqM (exM (methM ["Land"] "check_village" fn_Land_check_village 2 [] (vr 0) (evC (vr 1) evN)))
  (rtM (bin ixF (attM ["Land"] "spots" (vr 0)) (vr 1))))
def fn_Land_spot : Fn := mkFn 2 m_Land_spot
theorem ok_Land_spot {P : Program} {w : World} {K : PySem.W.Frag} {mg : Str → Option Value} {base : Heap} {dvs : List V} {f : Addr} {fd : FuncData} (F : FunD K "spot" "Land.spot" (defArgs s_Land_spot) (defBody s_Land_spot) (defScope s_Land_spot) dvs [] f fd) (hf_spots : ∀ c ∈ (["Land"] : List Str), Cls K (He.ga K c) ∧ NoAttr K (He.ga K c) "spots") (mt_Land_check_village : CalM P w K mg base 2 "Land" "check_village" 2 fn_Land_check_village []) :
    FnOk P w K mg base (L2.CX P w) 3 f fd ["self", "name"] (spOf K 2 fn_Land_spot) := by
  refine fn_ok (N := N_Land_spot) (m := m_Land_spot) F sc_Land_spot (by decide) fun cdv A outer s H E hr => ?_
  have tk := tk_cx (P := P) (w := w) (K := K) (mg := mg) (base := base) (qual := "Land.spot") (scope := defScope s_Land_spot) (f := f) (N := N_Land_spot) (cdv := cdv) (A := A) (outer := outer) (s := s) (H := H) (E := E)
  have ho := ps_cx (P := P) (w := w) (K := K) (mg := mg) (base := base) (qual := "Land.spot") (scope := defScope s_Land_spot) (f := f) (N := N_Land_spot) (cdv := cdv) (A := A) (outer := outer) (s := s) (H := H) (E := E)
  have hun := hr.un
  have hu : (cxOf (L2.CX P w) P w K mg base N_Land_spot "Land.spot" (defScope s_Land_spot) f cdv A outer s H E).A.units + 65 < cLine := by show (A.deeper _).units + 65 < cLine; omega
  have hu1 : (cxOf (L2.CX P w) P w K mg base N_Land_spot "Land.spot" (defScope s_Land_spot) f cdv A outer s H E).A.units + 1 < cLine := by show (A.deeper _).units + 1 < cLine; omega
  exact (css_cons (cs_expr (ce_mt mt_Land_check_village hr (by decide) tk (ce_var 0) (ca_cons (ce_var 1) ca_nil)))
    (css_one (cs_ret (ce_ix hu1 (ce_att hf_spots (ce_var 0)) (ce_var 1)))))
abbrev s__law_around : Stmt := topS 30
abbrev N__law_around : List Str := [("_law_laid" : Str), ("_law_row" : Str), ("_law_column" : Str), ("_law_found" : Str), ("_law_down" : Str), ("_law_along" : Str), ("_law_one" : Str)]
theorem sc__law_around : FnScope N__law_around ["_law_laid", "_law_row", "_law_column"] (defScope s__law_around) := C8.fnScope_by (by decide +kernel)
def m__law_around : M Flow := (seqM (stM (setM 3) (lstM evN))
  (seqM (forM (srcM (lstM (evC (tupM (evC (uno negF (cn (.int 1))) (evC (cn (.int 0)) evN))) (evC (tupM (evC (cn (.int 1)) (evC (cn (.int 0)) evN))) (evC (tupM (evC (cn (.int 0)) (evC (uno negF (cn (.int 1))) evN))) (evC (tupM (evC (cn (.int 0)) (evC (cn (.int 1)) evN))) evN)))))) (tupG 2 (setsC (setM 4) (setsC (setM 5) setsN))) (ifS (andT (chT leB ltB (cn (.int 0)) (bin addD (vr 1) (vr 4)) (bltM lenG (evC (vr 0) evN))) (chT leB ltB (cn (.int 0)) (bin addD (vr 2) (vr 5)) (bltM lenG (evC (bin ixF (vr 0) (cn (.int 0))) evN)))) (exM (lmM appendF (vr 3) (evC (bin ixF (bin ixF (vr 0) (bin addD (vr 1) (vr 4))) (bin addD (vr 2) (vr 5))) evN))) (ret .nx)))
  (rtM (bltM tupF (evC (bltM sortG' (evC (lcM (srcM (vr 3)) (setM 6) (cmpT nisB (vr 6) (cn .non)) (vr 6) [6]) evN)) evN)))))
def fn__law_around : Fn := mkFn 7 m__law_around
theorem ok__law_around {P : Program} {w : World} {K : PySem.W.Frag} {mg : Str → Option Value} {base : Heap} {dvs : List V} {f : Addr} {fd : FuncData} (F : FunD K "_law_around" "_law_around" (defArgs s__law_around) (defBody s__law_around) (defScope s__law_around) dvs [] f fd) (g_len : mg "len" = none) (g_sorted : mg "sorted" = none) (g_tuple : mg "tuple" = none) :
    FnOk P w K mg base (L2.CX P w) 1 f fd ["_law_laid", "_law_row", "_law_column"] (spOf K 3 fn__law_around) := by
  refine fn_ok (N := N__law_around) (m := m__law_around) F sc__law_around (by decide) fun cdv A outer s H E hr => ?_
  have tk := tk_cx (P := P) (w := w) (K := K) (mg := mg) (base := base) (qual := "_law_around") (scope := defScope s__law_around) (f := f) (N := N__law_around) (cdv := cdv) (A := A) (outer := outer) (s := s) (H := H) (E := E)
  have ho := ps_cx (P := P) (w := w) (K := K) (mg := mg) (base := base) (qual := "_law_around") (scope := defScope s__law_around) (f := f) (N := N__law_around) (cdv := cdv) (A := A) (outer := outer) (s := s) (H := H) (E := E)
  have hun := hr.un
  have hu : (cxOf (L2.CX P w) P w K mg base N__law_around "_law_around" (defScope s__law_around) f cdv A outer s H E).A.units + 65 < cLine := by show (A.deeper _).units + 65 < cLine; omega
  have hu1 : (cxOf (L2.CX P w) P w K mg base N__law_around "_law_around" (defScope s__law_around) f cdv A outer s H E).A.units + 1 < cLine := by show (A.deeper _).units + 1 < cLine; omega
  exact (css_cons (cs_asg (ce_lst ca_nil) (cg_name sc__law_around.nd rfl (by first | exact Or.inl rfl | exact Or.inr rfl)))
    (css_cons (cs_for ho rfl (ci_any (ce_lst (ca_cons (ce_tup (ca_cons (ce_neg ce_int) (ca_cons ce_int ca_nil))) (ca_cons (ce_tup (ca_cons ce_int (ca_cons ce_int ca_nil))) (ca_cons (ce_tup (ca_cons ce_int (ca_cons (ce_neg ce_int) ca_nil))) (ca_cons (ce_tup (ca_cons ce_int (ca_cons ce_int ca_nil))) ca_nil)))))) (cg_tup rfl (cgs_cons (cg_name sc__law_around.nd rfl (by first | exact Or.inl rfl | exact Or.inr rfl)) (cgs_cons (cg_name sc__law_around.nd rfl (by first | exact Or.inl rfl | exact Or.inr rfl)) cgs_nil))) (css_one (cs_if (ct_ofW (cw_and (ct_ch op_leA op_ltA bin_le bin_lt ce_int (ce_add (ce_var 1) (ce_var 4)) (ce_lenG rfl g_len (ca_cons (ce_var 0) ca_nil))) (cw_and1 (ct_ch op_leA op_ltA bin_le bin_lt ce_int (ce_add (ce_var 2) (ce_var 5)) (ce_lenG rfl g_len (ca_cons (ce_ix hu1 (ce_var 0) ce_int) ca_nil)))))) (css_one (cs_expr (ce_append (ce_var 3) (ca_cons (ce_ix hu1 (ce_ix hu1 (ce_var 0) (ce_add (ce_var 1) (ce_var 4))) (ce_add (ce_var 2) (ce_var 5))) ca_nil)))) css_nil)))
    (css_one (cs_ret (ce_tuplec rfl g_tuple (ca_cons (ce_sortG rfl rfl g_sorted (ca_cons (ce_lc (own := [("_law_one", 6)]) rfl sc__law_around.nd (ci_any (ce_var 3)) (by refine blkOk_by (own := [("_law_one", 6)]) (N := N__law_around) (sc := (defScope s__law_around)) ?_; decide +kernel) (fun _ _ _ _ _ => (cg_name sc__law_around.nd rfl (by first | exact Or.inl rfl | exact Or.inr rfl))) (fun _ _ _ _ _ => (cts_one (ct_nis (ce_var 6) ce_non))) (fun _ _ _ _ _ => (ce_var 6))) ca_nil)) ca_nil))))))
abbrev s_part_at : Stmt := topS 15
abbrev N_part_at : List Str := [("rows" : Str), ("row" : Str), ("column" : Str)]
theorem sc_part_at : FnScope N_part_at ["rows", "row", "column"] (defScope s_part_at) := C8.fnScope_by (by decide +kernel)
def m_part_at : M Flow := (seqM (ifS (orT (notT (chT leB ltB (cn (.int 0)) (vr 1) (bltM lenG (evC (vr 0) evN)))) (notT (chT leB ltB (cn (.int 0)) (vr 2) (bltM lenG (evC (bin ixF (vr 0) (cn (.int 0))) evN))))) (rtM (cn .non)) (ret .nx))
  (rtM (bin ixF (bin ixF (vr 0) (vr 1)) (vr 2))))
def fn_part_at : Fn := mkFn 3 m_part_at
theorem ok_part_at {P : Program} {w : World} {K : PySem.W.Frag} {mg : Str → Option Value} {base : Heap} {dvs : List V} {f : Addr} {fd : FuncData} (F : FunD K "part_at" "part_at" (defArgs s_part_at) (defBody s_part_at) (defScope s_part_at) dvs [] f fd) (g_len : mg "len" = none) :
    FnOk P w K mg base (L2.CX P w) 1 f fd ["rows", "row", "column"] (spOf K 3 fn_part_at) := by
  refine fn_ok (N := N_part_at) (m := m_part_at) F sc_part_at (by decide) fun cdv A outer s H E hr => ?_
  have tk := tk_cx (P := P) (w := w) (K := K) (mg := mg) (base := base) (qual := "part_at") (scope := defScope s_part_at) (f := f) (N := N_part_at) (cdv := cdv) (A := A) (outer := outer) (s := s) (H := H) (E := E)
  have ho := ps_cx (P := P) (w := w) (K := K) (mg := mg) (base := base) (qual := "part_at") (scope := defScope s_part_at) (f := f) (N := N_part_at) (cdv := cdv) (A := A) (outer := outer) (s := s) (H := H) (E := E)
  have hun := hr.un
  have hu : (cxOf (L2.CX P w) P w K mg base N_part_at "part_at" (defScope s_part_at) f cdv A outer s H E).A.units + 65 < cLine := by show (A.deeper _).units + 65 < cLine; omega
  have hu1 : (cxOf (L2.CX P w) P w K mg base N_part_at "part_at" (defScope s_part_at) f cdv A outer s H E).A.units + 1 < cLine := by show (A.deeper _).units + 1 < cLine; omega
  exact (css_cons (cs_if (ct_ofW (cw_or (ct_not (ct_ch op_leA op_ltA bin_le bin_lt ce_int (ce_var 1) (ce_lenG rfl g_len (ca_cons (ce_var 0) ca_nil)))) (cw_or1 (ct_not (ct_ch op_leA op_ltA bin_le bin_lt ce_int (ce_var 2) (ce_lenG rfl g_len (ca_cons (ce_ix hu1 (ce_var 0) ce_int) ca_nil))))))) (css_one (cs_ret ce_non)) css_nil)
    (css_one (cs_ret (ce_ix hu1 (ce_ix hu1 (ce_var 0) (ce_var 1)) (ce_var 2)))))
abbrev s_neighbours_of : Stmt := topS 16
abbrev N_neighbours_of : List Str := [("rows" : Str), ("name" : Str), ("row" : Str), ("column" : Str), ("beside" : Str), ("other" : Str)]
theorem sc_neighbours_of : FnScope N_neighbours_of ["rows", "name"] (defScope s_neighbours_of) := C8.fnScope_by (by decide +kernel)
def m_neighbours_of : M Flow := (seqM (stM (tupG 2 (setsC (setM 2) (setsC (setM 3) setsN))) (bin ixF (callM fn_spots_of 1 [] (evC (vr 0) evN)) (vr 1)))
  (seqM (stM (setM 4) (lstM (evC (callM fn_part_at 3 [] (evC (vr 0) (evC (bin subD (vr 2) (cn (.int 1))) (evC (vr 3) evN)))) (evC (callM fn_part_at 3 [] (evC (vr 0) (evC (bin addD (vr 2) (cn (.int 1))) (evC (vr 3) evN)))) evN))))
  (seqM (augM 4 (lstM (evC (callM fn_part_at 3 [] (evC (vr 0) (evC (vr 2) (evC (bin subD (vr 3) (cn (.int 1))) evN)))) (evC (callM fn_part_at 3 [] (evC (vr 0) (evC (vr 2) (evC (bin addD (vr 3) (cn (.int 1))) evN)))) evN))))
  (rtM (bltM tupF (evC (bltM sortG' (evC (lcM (srcM (vr 4)) (setM 5) (cmpT nisB (vr 5) (cn .non)) (vr 5) [5]) evN)) evN))))))
def fn_neighbours_of : Fn := mkFn 6 m_neighbours_of
theorem ok_neighbours_of {P : Program} {w : World} {K : PySem.W.Frag} {mg : Str → Option Value} {base : Heap} {dvs : List V} {f : Addr} {fd : FuncData} (F : FunD K "neighbours_of" "neighbours_of" (defArgs s_neighbours_of) (defBody s_neighbours_of) (defScope s_neighbours_of) dvs [] f fd) (g_sorted : mg "sorted" = none) (g_tuple : mg "tuple" = none) (c_part_at : Cal P w K mg base 1 "part_at" 3 fn_part_at []) (c_spots_of : Cal P w K mg base 1 "spots_of" 1 fn_spots_of []) :
    FnOk P w K mg base (L2.CX P w) 2 f fd ["rows", "name"] (spOf K 2 fn_neighbours_of) := by
  refine fn_ok (N := N_neighbours_of) (m := m_neighbours_of) F sc_neighbours_of (by decide) fun cdv A outer s H E hr => ?_
  have tk := tk_cx (P := P) (w := w) (K := K) (mg := mg) (base := base) (qual := "neighbours_of") (scope := defScope s_neighbours_of) (f := f) (N := N_neighbours_of) (cdv := cdv) (A := A) (outer := outer) (s := s) (H := H) (E := E)
  have ho := ps_cx (P := P) (w := w) (K := K) (mg := mg) (base := base) (qual := "neighbours_of") (scope := defScope s_neighbours_of) (f := f) (N := N_neighbours_of) (cdv := cdv) (A := A) (outer := outer) (s := s) (H := H) (E := E)
  have hun := hr.un
  have hu : (cxOf (L2.CX P w) P w K mg base N_neighbours_of "neighbours_of" (defScope s_neighbours_of) f cdv A outer s H E).A.units + 65 < cLine := by show (A.deeper _).units + 65 < cLine; omega
  have hu1 : (cxOf (L2.CX P w) P w K mg base N_neighbours_of "neighbours_of" (defScope s_neighbours_of) f cdv A outer s H E).A.units + 1 < cLine := by show (A.deeper _).units + 1 < cLine; omega
  exact (css_cons (cs_asg (ce_ix hu1 (ce_c c_spots_of hr (by decide) tk rfl (ca_cons (ce_var 0) ca_nil)) (ce_var 1)) (cg_tup rfl (cgs_cons (cg_name sc_neighbours_of.nd rfl (by first | exact Or.inl rfl | exact Or.inr rfl)) (cgs_cons (cg_name sc_neighbours_of.nd rfl (by first | exact Or.inl rfl | exact Or.inr rfl)) cgs_nil))))
    (css_cons (cs_asg (ce_lst (ca_cons (ce_c c_part_at hr (by decide) tk rfl (ca_cons (ce_var 0) (ca_cons (ce_sub (ce_var 2) ce_int) (ca_cons (ce_var 3) ca_nil)))) (ca_cons (ce_c c_part_at hr (by decide) tk rfl (ca_cons (ce_var 0) (ca_cons (ce_add (ce_var 2) ce_int) (ca_cons (ce_var 3) ca_nil)))) ca_nil))) (cg_name sc_neighbours_of.nd rfl (by first | exact Or.inl rfl | exact Or.inr rfl)))
    (css_cons (cs_augL sc_neighbours_of.nd rfl (by first | exact Or.inl rfl | exact Or.inr rfl) (ce_lst (ca_cons (ce_c c_part_at hr (by decide) tk rfl (ca_cons (ce_var 0) (ca_cons (ce_var 2) (ca_cons (ce_sub (ce_var 3) ce_int) ca_nil)))) (ca_cons (ce_c c_part_at hr (by decide) tk rfl (ca_cons (ce_var 0) (ca_cons (ce_var 2) (ca_cons (ce_add (ce_var 3) ce_int) ca_nil)))) ca_nil))))
    (css_one (cs_ret (ce_tuplec rfl g_tuple (ca_cons (ce_sortG rfl rfl g_sorted (ca_cons (ce_lc (own := [("other", 5)]) rfl sc_neighbours_of.nd (ci_any (ce_var 4)) (by refine blkOk_by (own := [("other", 5)]) (N := N_neighbours_of) (sc := (defScope s_neighbours_of)) ?_; decide +kernel) (fun _ _ _ _ _ => (cg_name sc_neighbours_of.nd rfl (by first | exact Or.inl rfl | exact Or.inr rfl))) (fun _ _ _ _ _ => (cts_one (ct_nis (ce_var 5) ce_non))) (fun _ _ _ _ _ => (ce_var 5))) ca_nil)) ca_nil)))))))
abbrev s_Land_neighbours : Stmt := clsS 19 9
abbrev N_Land_neighbours : List Str := [("self" : Str), ("name" : Str)]
theorem sc_Land_neighbours : FnScope N_Land_neighbours ["self", "name"] (defScope s_Land_neighbours) := C8.fnScope_by (by decide +kernel)
def m_Land_neighbours : M Flow := (seqM (exM (methM ["Land"] "check_village" fn_Land_check_village 2 [] (vr 0) (evC (vr 1) evN)))
  (rtM (callM fn_neighbours_of 2 [] (evC (attM ["Land"] "rows" (vr 0)) (evC (vr 1) evN)))))
def fn_Land_neighbours : Fn := mkFn 2 m_Land_neighbours
theorem ok_Land_neighbours {P : Program} {w : World} {K : PySem.W.Frag} {mg : Str → Option Value} {base : Heap} {dvs : List V} {f : Addr} {fd : FuncData} (F : FunD K "neighbours" "Land.neighbours" (defArgs s_Land_neighbours) (defBody s_Land_neighbours) (defScope s_Land_neighbours) dvs [] f fd) (hf_rows : ∀ c ∈ (["Land"] : List Str), Cls K (He.ga K c) ∧ NoAttr K (He.ga K c) "rows") (c_neighbours_of : Cal P w K mg base 2 "neighbours_of" 2 fn_neighbours_of []) (mt_Land_check_village : CalM P w K mg base 2 "Land" "check_village" 2 fn_Land_check_village []) :
    FnOk P w K mg base (L2.CX P w) 3 f fd ["self", "name"] (spOf K 2 fn_Land_neighbours) := by
  refine fn_ok (N := N_Land_neighbours) (m := m_Land_neighbours) F sc_Land_neighbours (by decide) fun cdv A outer s H E hr => ?_
  have tk := tk_cx (P := P) (w := w) (K := K) (mg := mg) (base := base) (qual := "Land.neighbours") (scope := defScope s_Land_neighbours) (f := f) (N := N_Land_neighbours) (cdv := cdv) (A := A) (outer := outer) (s := s) (H := H) (E := E)
  have ho := ps_cx (P := P) (w := w) (K := K) (mg := mg) (base := base) (qual := "Land.neighbours") (scope := defScope s_Land_neighbours) (f := f) (N := N_Land_neighbours) (cdv := cdv) (A := A) (outer := outer) (s := s) (H := H) (E := E)
  have hun := hr.un
  have hu : (cxOf (L2.CX P w) P w K mg base N_Land_neighbours "Land.neighbours" (defScope s_Land_neighbours) f cdv A outer s H E).A.units + 65 < cLine := by show (A.deeper _).units + 65 < cLine; omega
  have hu1 : (cxOf (L2.CX P w) P w K mg base N_Land_neighbours "Land.neighbours" (defScope s_Land_neighbours) f cdv A outer s H E).A.units + 1 < cLine := by show (A.deeper _).units + 1 < cLine; omega
  exact (css_cons (cs_expr (ce_mt mt_Land_check_village hr (by decide) tk (ce_var 0) (ca_cons (ce_var 1) ca_nil)))
    (css_one (cs_ret (ce_c c_neighbours_of hr (by decide) tk rfl (ca_cons (ce_att hf_rows (ce_var 0)) (ca_cons (ce_var 1) ca_nil))))))
abbrev s__law_town_right : Stmt := topS 31
abbrev N__law_town_right : List Str := [("_law_country" : Str), ("_law_laid" : Str), ("_law_row" : Str), ("_law_column" : Str), ("_law_town" : Str), ("_law_told" : Str), ("_law_due" : Str), ("_law_one" : Str)]
theorem sc__law_town_right : FnScope N__law_town_right ["_law_country", "_law_laid", "_law_row", "_law_column"] (defScope s__law_town_right) := C8.fnScope_by (by decide +kernel)
def m__law_town_right : M Flow := (seqM (stM (setM 4) (bin ixF (bin ixF (vr 1) (vr 2)) (vr 3)))
  (seqM (stM (setM 5) (lstM (evC (methM ["Land"] "spot" fn_Land_spot 2 [] (vr 0) (evC (vr 4) evN)) (evC (methK ["Land"] "spot" fn_Land_spot 2 0 1 [0, 0] [] (vr 0) evN (evC (vr 4) evN)) evN))))
  (seqM (ifS (orT (cmpT neB (vr 5) (lstM (evC (tupM (evC (vr 2) (evC (vr 3) evN))) (evC (tupM (evC (vr 2) (evC (vr 3) evN))) evN)))) (notT (truM (bltM allF (evC (lcM (srcM (vr 5)) (setM 7) (ret true) (bltM isiF (evC (vr 7) (evC (cn (.ty "tuple")) evN))) [7]) evN))))) (rtM (cn (.bl false))) (ret .nx))
  (seqM (stM (setM 6) (callM fn__law_around 3 [] (evC (vr 1) (evC (vr 2) (evC (vr 3) evN)))))
  (seqM (stM (setM 5) (lstM (evC (methM ["Land"] "neighbours" fn_Land_neighbours 2 [] (vr 0) (evC (vr 4) evN)) (evC (methK ["Land"] "neighbours" fn_Land_neighbours 2 0 1 [0, 0] [] (vr 0) evN (evC (vr 4) evN)) evN))))
  (rtM (andV (cmpV eqB (vr 5) (lstM (evC (vr 6) (evC (vr 6) evN)))) (bltM allF (evC (lcM (srcM (vr 5)) (setM 7) (ret true) (bltM isiF (evC (vr 7) (evC (cn (.ty "tuple")) evN))) [7]) evN)))))))))
def fn__law_town_right : Fn := mkFn 8 m__law_town_right
theorem ok__law_town_right {P : Program} {w : World} {K : PySem.W.Frag} {mg : Str → Option Value} {base : Heap} {dvs : List V} {f : Addr} {fd : FuncData} (F : FunD K "_law_town_right" "_law_town_right" (defArgs s__law_town_right) (defBody s__law_town_right) (defScope s__law_town_right) dvs [] f fd) (g_all : mg "all" = none) (g_isinstance : mg "isinstance" = none) (g_tuple : mg "tuple" = none) (c__law_around : Cal P w K mg base 1 "_law_around" 3 fn__law_around []) (mt_Land_neighbours : CalM P w K mg base 3 "Land" "neighbours" 2 fn_Land_neighbours []) (mt_Land_spot : CalM P w K mg base 3 "Land" "spot" 2 fn_Land_spot []) (mtk_Land_neighbours_0_name : CalMK P w K mg base 3 "Land" "neighbours" 2 fn_Land_neighbours 0 ["name"] [0, 0] []) (mtk_Land_spot_0_name : CalMK P w K mg base 3 "Land" "spot" 2 fn_Land_spot 0 ["name"] [0, 0] []) :
    FnOk P w K mg base (L2.CX P w) 4 f fd ["_law_country", "_law_laid", "_law_row", "_law_column"] (spOf K 4 fn__law_town_right) := by
  refine fn_ok (N := N__law_town_right) (m := m__law_town_right) F sc__law_town_right (by decide) fun cdv A outer s H E hr => ?_
  have tk := tk_cx (P := P) (w := w) (K := K) (mg := mg) (base := base) (qual := "_law_town_right") (scope := defScope s__law_town_right) (f := f) (N := N__law_town_right) (cdv := cdv) (A := A) (outer := outer) (s := s) (H := H) (E := E)
  have ho := ps_cx (P := P) (w := w) (K := K) (mg := mg) (base := base) (qual := "_law_town_right") (scope := defScope s__law_town_right) (f := f) (N := N__law_town_right) (cdv := cdv) (A := A) (outer := outer) (s := s) (H := H) (E := E)
  have hun := hr.un
  have hu : (cxOf (L2.CX P w) P w K mg base N__law_town_right "_law_town_right" (defScope s__law_town_right) f cdv A outer s H E).A.units + 65 < cLine := by show (A.deeper _).units + 65 < cLine; omega
  have hu1 : (cxOf (L2.CX P w) P w K mg base N__law_town_right "_law_town_right" (defScope s__law_town_right) f cdv A outer s H E).A.units + 1 < cLine := by show (A.deeper _).units + 1 < cLine; omega
  exact (css_cons (cs_asg (ce_ix hu1 (ce_ix hu1 (ce_var 1) (ce_var 2)) (ce_var 3)) (cg_name sc__law_town_right.nd rfl (by first | exact Or.inl rfl | exact Or.inr rfl)))
    (css_cons (cs_asg (ce_lst (ca_cons (ce_mt mt_Land_spot hr (by decide) tk (ce_var 0) (ca_cons (ce_var 4) ca_nil)) (ca_cons (ce_mtK0 mtk_Land_spot_0_name hr (by decide) tk (ce_var 0) (ck_cons (ce_var 4) ck_nil)) ca_nil))) (cg_name sc__law_town_right.nd rfl (by first | exact Or.inl rfl | exact Or.inr rfl)))
    (css_cons (cs_if (ct_ofW (cw_or (ct_ne (ce_var 5) (ce_lst (ca_cons (ce_tup (ca_cons (ce_var 2) (ca_cons (ce_var 3) ca_nil))) (ca_cons (ce_tup (ca_cons (ce_var 2) (ca_cons (ce_var 3) ca_nil))) ca_nil))) hu) (cw_or1 (ct_not (ct_tru (ce_allc rfl rfl g_all (ca_cons (ce_lc (own := [("_law_one", 7)]) rfl sc__law_town_right.nd (ci_any (ce_var 5)) (by refine blkOk_by (own := [("_law_one", 7)]) (N := N__law_town_right) (sc := (defScope s__law_town_right)) ?_; decide +kernel) (fun _ _ _ _ _ => (cg_name sc__law_town_right.nd rfl (by first | exact Or.inl rfl | exact Or.inr rfl))) (fun _ _ _ _ _ => cts_nil) (fun _ _ _ _ _ => (ce_isi rfl g_isinstance (ca_cons (ce_var 7) (ca_cons (ce_tyn rfl g_tuple (by decide +kernel)) ca_nil))))) ca_nil))))))) (css_one (cs_ret ce_bl)) css_nil)
    (css_cons (cs_asg (ce_c c__law_around hr (by decide) tk rfl (ca_cons (ce_var 1) (ca_cons (ce_var 2) (ca_cons (ce_var 3) ca_nil)))) (cg_name sc__law_town_right.nd rfl (by first | exact Or.inl rfl | exact Or.inr rfl)))
    (css_cons (cs_asg (ce_lst (ca_cons (ce_mt mt_Land_neighbours hr (by decide) tk (ce_var 0) (ca_cons (ce_var 4) ca_nil)) (ca_cons (ce_mtK0 mtk_Land_neighbours_0_name hr (by decide) tk (ce_var 0) (ck_cons (ce_var 4) ck_nil)) ca_nil))) (cg_name sc__law_town_right.nd rfl (by first | exact Or.inl rfl | exact Or.inr rfl)))
    (css_one (cs_ret (ce_and (ce_eq (ce_var 5) (ce_lst (ca_cons (ce_var 6) (ca_cons (ce_var 6) ca_nil))) hu) (ce_one (ce_allc rfl rfl g_all (ca_cons (ce_lc (own := [("_law_one", 7)]) rfl sc__law_town_right.nd (ci_any (ce_var 5)) (by refine blkOk_by (own := [("_law_one", 7)]) (N := N__law_town_right) (sc := (defScope s__law_town_right)) ?_; decide +kernel) (fun _ _ _ _ _ => (cg_name sc__law_town_right.nd rfl (by first | exact Or.inl rfl | exact Or.inr rfl))) (fun _ _ _ _ _ => cts_nil) (fun _ _ _ _ _ => (ce_isi rfl g_isinstance (ca_cons (ce_var 7) (ca_cons (ce_tyn rfl g_tuple (by decide +kernel)) ca_nil))))) ca_nil)))))))))))
abbrev s__law_each_right : Stmt := topS 32
abbrev N__law_each_right : List Str := [("_law_country" : Str), ("_law_laid" : Str), ("_law_row" : Str), ("_law_column" : Str)]
theorem sc__law_each_right : FnScope N__law_each_right ["_law_country", "_law_laid"] (defScope s__law_each_right) := C8.fnScope_by (by decide +kernel)
def m__law_each_right : M Flow := (seqM (forM (rng1 (evC (bltM lenG (evC (vr 1) evN)) evN)) (setM 2) (forM (rng1 (evC (bltM lenG (evC (bin ixF (vr 1) (cn (.int 0))) evN)) evN)) (setM 3) (ifS (andT (cmpT nisB (bin ixF (bin ixF (vr 1) (vr 2)) (vr 3)) (cn .non)) (notT (truM (callM fn__law_town_right 4 [] (evC (vr 0) (evC (vr 1) (evC (vr 2) (evC (vr 3) evN)))))))) (rtM (cn (.bl false))) (ret .nx))))
  (rtM (cn (.bl true))))
def fn__law_each_right : Fn := mkFn 4 m__law_each_right
theorem ok__law_each_right {P : Program} {w : World} {K : PySem.W.Frag} {mg : Str → Option Value} {base : Heap} {dvs : List V} {f : Addr} {fd : FuncData} (F : FunD K "_law_each_right" "_law_each_right" (defArgs s__law_each_right) (defBody s__law_each_right) (defScope s__law_each_right) dvs [] f fd) (g_len : mg "len" = none) (g_range : mg "range" = none) (c__law_town_right : Cal P w K mg base 4 "_law_town_right" 4 fn__law_town_right []) :
    FnOk P w K mg base (L2.CX P w) 5 f fd ["_law_country", "_law_laid"] (spOf K 2 fn__law_each_right) := by
  refine fn_ok (N := N__law_each_right) (m := m__law_each_right) F sc__law_each_right (by decide) fun cdv A outer s H E hr => ?_
  have tk := tk_cx (P := P) (w := w) (K := K) (mg := mg) (base := base) (qual := "_law_each_right") (scope := defScope s__law_each_right) (f := f) (N := N__law_each_right) (cdv := cdv) (A := A) (outer := outer) (s := s) (H := H) (E := E)
  have ho := ps_cx (P := P) (w := w) (K := K) (mg := mg) (base := base) (qual := "_law_each_right") (scope := defScope s__law_each_right) (f := f) (N := N__law_each_right) (cdv := cdv) (A := A) (outer := outer) (s := s) (H := H) (E := E)
  have hun := hr.un
  have hu : (cxOf (L2.CX P w) P w K mg base N__law_each_right "_law_each_right" (defScope s__law_each_right) f cdv A outer s H E).A.units + 65 < cLine := by show (A.deeper _).units + 65 < cLine; omega
  have hu1 : (cxOf (L2.CX P w) P w K mg base N__law_each_right "_law_each_right" (defScope s__law_each_right) f cdv A outer s H E).A.units + 1 < cLine := by show (A.deeper _).units + 1 < cLine; omega
  exact (css_cons (cs_for ho rfl (ci_range1 rfl g_range (ca_cons (ce_lenG rfl g_len (ca_cons (ce_var 1) ca_nil)) ca_nil)) (cg_name sc__law_each_right.nd rfl (by first | exact Or.inl rfl | exact Or.inr rfl)) (css_one (cs_for ho rfl (ci_range1 rfl g_range (ca_cons (ce_lenG rfl g_len (ca_cons (ce_ix hu1 (ce_var 1) ce_int) ca_nil)) ca_nil)) (cg_name sc__law_each_right.nd rfl (by first | exact Or.inl rfl | exact Or.inr rfl)) (css_one (cs_if (ct_ofW (cw_and (ct_nis (ce_ix hu1 (ce_ix hu1 (ce_var 1) (ce_var 2)) (ce_var 3)) ce_non) (cw_and1 (ct_not (ct_tru (ce_c c__law_town_right hr (by decide) tk rfl (ca_cons (ce_var 0) (ca_cons (ce_var 1) (ca_cons (ce_var 2) (ca_cons (ce_var 3) ca_nil)))))))))) (css_one (cs_ret ce_bl)) css_nil)))))
    (css_one (cs_ret ce_bl)))
abbrev s_names_of : Stmt := topS 14
abbrev N_names_of : List Str := [("rows" : Str)]
theorem sc_names_of : FnScope N_names_of ["rows"] (defScope s_names_of) := C8.fnScope_by (by decide +kernel)
def m_names_of : M Flow := (rtM (bltM tupF (evC (bltM sortG' (evC (callM fn_spots_of 1 [] (evC (vr 0) evN)) evN)) evN)))
def fn_names_of : Fn := mkFn 1 m_names_of
theorem ok_names_of {P : Program} {w : World} {K : PySem.W.Frag} {mg : Str → Option Value} {base : Heap} {dvs : List V} {f : Addr} {fd : FuncData} (F : FunD K "names_of" "names_of" (defArgs s_names_of) (defBody s_names_of) (defScope s_names_of) dvs [] f fd) (g_sorted : mg "sorted" = none) (g_tuple : mg "tuple" = none) (c_spots_of : Cal P w K mg base 1 "spots_of" 1 fn_spots_of []) :
    FnOk P w K mg base (L2.CX P w) 2 f fd ["rows"] (spOf K 1 fn_names_of) := by
  refine fn_ok (N := N_names_of) (m := m_names_of) F sc_names_of (by decide) fun cdv A outer s H E hr => ?_
  have tk := tk_cx (P := P) (w := w) (K := K) (mg := mg) (base := base) (qual := "names_of") (scope := defScope s_names_of) (f := f) (N := N_names_of) (cdv := cdv) (A := A) (outer := outer) (s := s) (H := H) (E := E)
  have ho := ps_cx (P := P) (w := w) (K := K) (mg := mg) (base := base) (qual := "names_of") (scope := defScope s_names_of) (f := f) (N := N_names_of) (cdv := cdv) (A := A) (outer := outer) (s := s) (H := H) (E := E)
  have hun := hr.un
  have hu : (cxOf (L2.CX P w) P w K mg base N_names_of "names_of" (defScope s_names_of) f cdv A outer s H E).A.units + 65 < cLine := by show (A.deeper _).units + 65 < cLine; omega
  have hu1 : (cxOf (L2.CX P w) P w K mg base N_names_of "names_of" (defScope s_names_of) f cdv A outer s H E).A.units + 1 < cLine := by show (A.deeper _).units + 1 < cLine; omega
  exact (css_one (cs_ret (ce_tuplec rfl g_tuple (ca_cons (ce_sortG rfl rfl g_sorted (ca_cons (ce_c c_spots_of hr (by decide) tk rfl (ca_cons (ce_var 0) ca_nil)) ca_nil)) ca_nil))))
abbrev s_Land_names : Stmt := clsS 19 7
abbrev N_Land_names : List Str := [("self" : Str)]
theorem sc_Land_names : FnScope N_Land_names ["self"] (defScope s_Land_names) := C8.fnScope_by (by decide +kernel)
def m_Land_names : M Flow := (rtM (callM fn_names_of 1 [] (evC (attM ["Land"] "rows" (vr 0)) evN)))
def fn_Land_names : Fn := mkFn 1 m_Land_names
theorem ok_Land_names {P : Program} {w : World} {K : PySem.W.Frag} {mg : Str → Option Value} {base : Heap} {dvs : List V} {f : Addr} {fd : FuncData} (F : FunD K "names" "Land.names" (defArgs s_Land_names) (defBody s_Land_names) (defScope s_Land_names) dvs [] f fd) (hf_rows : ∀ c ∈ (["Land"] : List Str), Cls K (He.ga K c) ∧ NoAttr K (He.ga K c) "rows") (c_names_of : Cal P w K mg base 2 "names_of" 1 fn_names_of []) :
    FnOk P w K mg base (L2.CX P w) 3 f fd ["self"] (spOf K 1 fn_Land_names) := by
  refine fn_ok (N := N_Land_names) (m := m_Land_names) F sc_Land_names (by decide) fun cdv A outer s H E hr => ?_
  have tk := tk_cx (P := P) (w := w) (K := K) (mg := mg) (base := base) (qual := "Land.names") (scope := defScope s_Land_names) (f := f) (N := N_Land_names) (cdv := cdv) (A := A) (outer := outer) (s := s) (H := H) (E := E)
  have ho := ps_cx (P := P) (w := w) (K := K) (mg := mg) (base := base) (qual := "Land.names") (scope := defScope s_Land_names) (f := f) (N := N_Land_names) (cdv := cdv) (A := A) (outer := outer) (s := s) (H := H) (E := E)
  have hun := hr.un
  have hu : (cxOf (L2.CX P w) P w K mg base N_Land_names "Land.names" (defScope s_Land_names) f cdv A outer s H E).A.units + 65 < cLine := by show (A.deeper _).units + 65 < cLine; omega
  have hu1 : (cxOf (L2.CX P w) P w K mg base N_Land_names "Land.names" (defScope s_Land_names) f cdv A outer s H E).A.units + 1 < cLine := by show (A.deeper _).units + 1 < cLine; omega
  exact (css_one (cs_ret (ce_c c_names_of hr (by decide) tk rfl (ca_cons (ce_att hf_rows (ce_var 0)) ca_nil))))
abbrev s__law_names : Stmt := topS 28
abbrev N__law_names : List Str := [("_law_laid" : Str), ("_law_found" : Str), ("_law_row" : Str), ("_law_town" : Str)]
theorem sc__law_names : FnScope N__law_names ["_law_laid"] (defScope s__law_names) := C8.fnScope_by (by decide +kernel)
def m__law_names : M Flow := (seqM (stM (setM 1) (lstM evN))
  (seqM (forM (srcM (vr 0)) (setM 2) (exM (lmM extF (vr 1) (evC (lcM (srcM (vr 2)) (setM 3) (cmpT nisB (vr 3) (cn .non)) (vr 3) [3]) evN))))
  (rtM (bltM sortG' (evC (vr 1) evN)))))
def fn__law_names : Fn := mkFn 4 m__law_names
theorem ok__law_names {P : Program} {w : World} {K : PySem.W.Frag} {mg : Str → Option Value} {base : Heap} {dvs : List V} {f : Addr} {fd : FuncData} (F : FunD K "_law_names" "_law_names" (defArgs s__law_names) (defBody s__law_names) (defScope s__law_names) dvs [] f fd) (g_sorted : mg "sorted" = none) :
    FnOk P w K mg base (L2.CX P w) 1 f fd ["_law_laid"] (spOf K 1 fn__law_names) := by
  refine fn_ok (N := N__law_names) (m := m__law_names) F sc__law_names (by decide) fun cdv A outer s H E hr => ?_
  have tk := tk_cx (P := P) (w := w) (K := K) (mg := mg) (base := base) (qual := "_law_names") (scope := defScope s__law_names) (f := f) (N := N__law_names) (cdv := cdv) (A := A) (outer := outer) (s := s) (H := H) (E := E)
  have ho := ps_cx (P := P) (w := w) (K := K) (mg := mg) (base := base) (qual := "_law_names") (scope := defScope s__law_names) (f := f) (N := N__law_names) (cdv := cdv) (A := A) (outer := outer) (s := s) (H := H) (E := E)
  have hun := hr.un
  have hu : (cxOf (L2.CX P w) P w K mg base N__law_names "_law_names" (defScope s__law_names) f cdv A outer s H E).A.units + 65 < cLine := by show (A.deeper _).units + 65 < cLine; omega
  have hu1 : (cxOf (L2.CX P w) P w K mg base N__law_names "_law_names" (defScope s__law_names) f cdv A outer s H E).A.units + 1 < cLine := by show (A.deeper _).units + 1 < cLine; omega
  exact (css_cons (cs_asg (ce_lst ca_nil) (cg_name sc__law_names.nd rfl (by first | exact Or.inl rfl | exact Or.inr rfl)))
    (css_cons (cs_for ho rfl (ci_any (ce_var 0)) (cg_name sc__law_names.nd rfl (by first | exact Or.inl rfl | exact Or.inr rfl)) (css_one (cs_expr (ce_extend (ce_var 1) (ca_cons (ce_lc (own := [("_law_town", 3)]) rfl sc__law_names.nd (ci_any (ce_var 2)) (by refine blkOk_by (own := [("_law_town", 3)]) (N := N__law_names) (sc := (defScope s__law_names)) ?_; decide +kernel) (fun _ _ _ _ _ => (cg_name sc__law_names.nd rfl (by first | exact Or.inl rfl | exact Or.inr rfl))) (fun _ _ _ _ _ => (cts_one (ct_nis (ce_var 3) ce_non))) (fun _ _ _ _ _ => (ce_var 3))) ca_nil)))))
    (css_one (cs_ret (ce_sortG rfl rfl g_sorted (ca_cons (ce_var 1) ca_nil))))))
abbrev s_borders_of : Stmt := topS 17
abbrev N_borders_of : List Str := [("rows" : Str), ("found" : Str), ("name" : Str), ("row" : Str), ("column" : Str), ("other" : Str)]
theorem sc_borders_of : FnScope N_borders_of ["rows"] (defScope s_borders_of) := C8.fnScope_by (by decide +kernel)
def m_borders_of : M Flow := (seqM (stM (setM 1) (lstM evN))
  (seqM (forM (dsM itemsD (callM fn_spots_of 1 [] (evC (vr 0) evN))) (tupG 2 (setsC (setM 2) (setsC (tupG 2 (setsC (setM 3) (setsC (setM 4) setsN))) setsN))) (forM (srcM (tupM (evC (callM fn_part_at 3 [] (evC (vr 0) (evC (bin addD (vr 3) (cn (.int 1))) (evC (vr 4) evN)))) (evC (callM fn_part_at 3 [] (evC (vr 0) (evC (vr 3) (evC (bin addD (vr 4) (cn (.int 1))) evN)))) evN)))) (setM 5) (ifS (cmpT nisB (vr 5) (cn .non)) (exM (lmM appendF (vr 1) (evC (tupM (evC (bltM minG (evC (vr 2) (evC (vr 5) evN))) (evC (bltM maxG (evC (vr 2) (evC (vr 5) evN))) evN))) evN))) (ret .nx))))
  (rtM (bltM tupF (evC (bltM sortG' (evC (vr 1) evN)) evN)))))
def fn_borders_of : Fn := mkFn 6 m_borders_of
theorem ok_borders_of {P : Program} {w : World} {K : PySem.W.Frag} {mg : Str → Option Value} {base : Heap} {dvs : List V} {f : Addr} {fd : FuncData} (F : FunD K "borders_of" "borders_of" (defArgs s_borders_of) (defBody s_borders_of) (defScope s_borders_of) dvs [] f fd) (g_max : mg "max" = none) (g_min : mg "min" = none) (g_sorted : mg "sorted" = none) (g_tuple : mg "tuple" = none) (c_part_at : Cal P w K mg base 1 "part_at" 3 fn_part_at []) (c_spots_of : Cal P w K mg base 1 "spots_of" 1 fn_spots_of []) :
    FnOk P w K mg base (L2.CX P w) 2 f fd ["rows"] (spOf K 1 fn_borders_of) := by
  refine fn_ok (N := N_borders_of) (m := m_borders_of) F sc_borders_of (by decide) fun cdv A outer s H E hr => ?_
  have tk := tk_cx (P := P) (w := w) (K := K) (mg := mg) (base := base) (qual := "borders_of") (scope := defScope s_borders_of) (f := f) (N := N_borders_of) (cdv := cdv) (A := A) (outer := outer) (s := s) (H := H) (E := E)
  have ho := ps_cx (P := P) (w := w) (K := K) (mg := mg) (base := base) (qual := "borders_of") (scope := defScope s_borders_of) (f := f) (N := N_borders_of) (cdv := cdv) (A := A) (outer := outer) (s := s) (H := H) (E := E)
  have hun := hr.un
  have hu : (cxOf (L2.CX P w) P w K mg base N_borders_of "borders_of" (defScope s_borders_of) f cdv A outer s H E).A.units + 65 < cLine := by show (A.deeper _).units + 65 < cLine; omega
  have hu1 : (cxOf (L2.CX P w) P w K mg base N_borders_of "borders_of" (defScope s_borders_of) f cdv A outer s H E).A.units + 1 < cLine := by show (A.deeper _).units + 1 < cLine; omega
  exact (css_cons (cs_asg (ce_lst ca_nil) (cg_name sc_borders_of.nd rfl (by first | exact Or.inl rfl | exact Or.inr rfl)))
    (css_cons (cs_for ho rfl (ci_items (ce_c c_spots_of hr (by decide) tk rfl (ca_cons (ce_var 0) ca_nil))) (cg_tup rfl (cgs_cons (cg_name sc_borders_of.nd rfl (by first | exact Or.inl rfl | exact Or.inr rfl)) (cgs_cons (cg_tup rfl (cgs_cons (cg_name sc_borders_of.nd rfl (by first | exact Or.inl rfl | exact Or.inr rfl)) (cgs_cons (cg_name sc_borders_of.nd rfl (by first | exact Or.inl rfl | exact Or.inr rfl)) cgs_nil))) cgs_nil))) (css_one (cs_for ho rfl (ci_any (ce_tup (ca_cons (ce_c c_part_at hr (by decide) tk rfl (ca_cons (ce_var 0) (ca_cons (ce_add (ce_var 3) ce_int) (ca_cons (ce_var 4) ca_nil)))) (ca_cons (ce_c c_part_at hr (by decide) tk rfl (ca_cons (ce_var 0) (ca_cons (ce_var 3) (ca_cons (ce_add (ce_var 4) ce_int) ca_nil)))) ca_nil)))) (cg_name sc_borders_of.nd rfl (by first | exact Or.inl rfl | exact Or.inr rfl)) (css_one (cs_if (ct_nis (ce_var 5) ce_non) (css_one (cs_expr (ce_append (ce_var 1) (ca_cons (ce_tup (ca_cons (ce_min2G rfl rfl g_min (ca_cons (ce_var 2) (ca_cons (ce_var 5) ca_nil))) (ca_cons (ce_max2G rfl rfl g_max (ca_cons (ce_var 2) (ca_cons (ce_var 5) ca_nil))) ca_nil))) ca_nil)))) css_nil)))))
    (css_one (cs_ret (ce_tuplec rfl g_tuple (ca_cons (ce_sortG rfl rfl g_sorted (ca_cons (ce_var 1) ca_nil)) ca_nil))))))
abbrev s_Land_borders : Stmt := clsS 19 10
abbrev N_Land_borders : List Str := [("self" : Str)]
theorem sc_Land_borders : FnScope N_Land_borders ["self"] (defScope s_Land_borders) := C8.fnScope_by (by decide +kernel)
def m_Land_borders : M Flow := (rtM (callM fn_borders_of 1 [] (evC (attM ["Land"] "rows" (vr 0)) evN)))
def fn_Land_borders : Fn := mkFn 1 m_Land_borders
theorem ok_Land_borders {P : Program} {w : World} {K : PySem.W.Frag} {mg : Str → Option Value} {base : Heap} {dvs : List V} {f : Addr} {fd : FuncData} (F : FunD K "borders" "Land.borders" (defArgs s_Land_borders) (defBody s_Land_borders) (defScope s_Land_borders) dvs [] f fd) (hf_rows : ∀ c ∈ (["Land"] : List Str), Cls K (He.ga K c) ∧ NoAttr K (He.ga K c) "rows") (c_borders_of : Cal P w K mg base 2 "borders_of" 1 fn_borders_of []) :
    FnOk P w K mg base (L2.CX P w) 3 f fd ["self"] (spOf K 1 fn_Land_borders) := by
  refine fn_ok (N := N_Land_borders) (m := m_Land_borders) F sc_Land_borders (by decide) fun cdv A outer s H E hr => ?_
  have tk := tk_cx (P := P) (w := w) (K := K) (mg := mg) (base := base) (qual := "Land.borders") (scope := defScope s_Land_borders) (f := f) (N := N_Land_borders) (cdv := cdv) (A := A) (outer := outer) (s := s) (H := H) (E := E)
  have ho := ps_cx (P := P) (w := w) (K := K) (mg := mg) (base := base) (qual := "Land.borders") (scope := defScope s_Land_borders) (f := f) (N := N_Land_borders) (cdv := cdv) (A := A) (outer := outer) (s := s) (H := H) (E := E)
  have hun := hr.un
  have hu : (cxOf (L2.CX P w) P w K mg base N_Land_borders "Land.borders" (defScope s_Land_borders) f cdv A outer s H E).A.units + 65 < cLine := by show (A.deeper _).units + 65 < cLine; omega
  have hu1 : (cxOf (L2.CX P w) P w K mg base N_Land_borders "Land.borders" (defScope s_Land_borders) f cdv A outer s H E).A.units + 1 < cLine := by show (A.deeper _).units + 1 < cLine; omega
  exact (css_one (cs_ret (ce_c c_borders_of hr (by decide) tk rfl (ca_cons (ce_att hf_rows (ce_var 0)) ca_nil))))
abbrev s__law_beside : Stmt := topS 29
abbrev N__law_beside : List Str := [("_law_laid" : Str), ("_law_found" : Str), ("_law_row" : Str), ("_law_column" : Str), ("_law_down" : Str), ("_law_along" : Str), ("_law_pair" : Str)]
theorem sc__law_beside : FnScope N__law_beside ["_law_laid"] (defScope s__law_beside) := C8.fnScope_by (by decide +kernel)
def m__law_beside : M Flow := (seqM (stM (setM 1) (lstM evN))
  (seqM (forM (rng1 (evC (bltM lenG (evC (vr 0) evN)) evN)) (setM 2) (forM (rng1 (evC (bltM lenG (evC (bin ixF (vr 0) (vr 2)) evN)) evN)) (setM 3) (forM (srcM (lstM (evC (tupM (evC (cn (.int 1)) (evC (cn (.int 0)) evN))) (evC (tupM (evC (cn (.int 0)) (evC (cn (.int 1)) evN))) evN)))) (tupG 2 (setsC (setM 4) (setsC (setM 5) setsN))) (ifS (andT (cmpT ltB (bin addD (vr 2) (vr 4)) (bltM lenG (evC (vr 0) evN))) (cmpT ltB (bin addD (vr 3) (vr 5)) (bltM lenG (evC (bin ixF (vr 0) (vr 2)) evN)))) (seqM (stM (setM 6) (tupM (evC (bin ixF (bin ixF (vr 0) (vr 2)) (vr 3)) (evC (bin ixF (bin ixF (vr 0) (bin addD (vr 2) (vr 4))) (bin addD (vr 3) (vr 5))) evN))))
  (ifS (cmpT ninB (cn .non) (vr 6)) (exM (lmM appendF (vr 1) (evC (tupM (evC (bltM minG (evC (vr 6) evN)) (evC (bltM maxG (evC (vr 6) evN)) evN))) evN))) (ret .nx))) (ret .nx)))))
  (rtM (bltM sortG' (evC (vr 1) evN)))))
def fn__law_beside : Fn := mkFn 7 m__law_beside
theorem ok__law_beside {P : Program} {w : World} {K : PySem.W.Frag} {mg : Str → Option Value} {base : Heap} {dvs : List V} {f : Addr} {fd : FuncData} (F : FunD K "_law_beside" "_law_beside" (defArgs s__law_beside) (defBody s__law_beside) (defScope s__law_beside) dvs [] f fd) (g_len : mg "len" = none) (g_max : mg "max" = none) (g_min : mg "min" = none) (g_range : mg "range" = none) (g_sorted : mg "sorted" = none) :
    FnOk P w K mg base (L2.CX P w) 1 f fd ["_law_laid"] (spOf K 1 fn__law_beside) := by
  refine fn_ok (N := N__law_beside) (m := m__law_beside) F sc__law_beside (by decide) fun cdv A outer s H E hr => ?_
  have tk := tk_cx (P := P) (w := w) (K := K) (mg := mg) (base := base) (qual := "_law_beside") (scope := defScope s__law_beside) (f := f) (N := N__law_beside) (cdv := cdv) (A := A) (outer := outer) (s := s) (H := H) (E := E)
  have ho := ps_cx (P := P) (w := w) (K := K) (mg := mg) (base := base) (qual := "_law_beside") (scope := defScope s__law_beside) (f := f) (N := N__law_beside) (cdv := cdv) (A := A) (outer := outer) (s := s) (H := H) (E := E)
  have hun := hr.un
  have hu : (cxOf (L2.CX P w) P w K mg base N__law_beside "_law_beside" (defScope s__law_beside) f cdv A outer s H E).A.units + 65 < cLine := by show (A.deeper _).units + 65 < cLine; omega
  have hu1 : (cxOf (L2.CX P w) P w K mg base N__law_beside "_law_beside" (defScope s__law_beside) f cdv A outer s H E).A.units + 1 < cLine := by show (A.deeper _).units + 1 < cLine; omega
  exact (css_cons (cs_asg (ce_lst ca_nil) (cg_name sc__law_beside.nd rfl (by first | exact Or.inl rfl | exact Or.inr rfl)))
    (css_cons (cs_for ho rfl (ci_range1 rfl g_range (ca_cons (ce_lenG rfl g_len (ca_cons (ce_var 0) ca_nil)) ca_nil)) (cg_name sc__law_beside.nd rfl (by first | exact Or.inl rfl | exact Or.inr rfl)) (css_one (cs_for ho rfl (ci_range1 rfl g_range (ca_cons (ce_lenG rfl g_len (ca_cons (ce_ix hu1 (ce_var 0) (ce_var 2)) ca_nil)) ca_nil)) (cg_name sc__law_beside.nd rfl (by first | exact Or.inl rfl | exact Or.inr rfl)) (css_one (cs_for ho rfl (ci_any (ce_lst (ca_cons (ce_tup (ca_cons ce_int (ca_cons ce_int ca_nil))) (ca_cons (ce_tup (ca_cons ce_int (ca_cons ce_int ca_nil))) ca_nil)))) (cg_tup rfl (cgs_cons (cg_name sc__law_beside.nd rfl (by first | exact Or.inl rfl | exact Or.inr rfl)) (cgs_cons (cg_name sc__law_beside.nd rfl (by first | exact Or.inl rfl | exact Or.inr rfl)) cgs_nil))) (css_one (cs_if (ct_ofW (cw_and (ct_lt (ce_add (ce_var 2) (ce_var 4)) (ce_lenG rfl g_len (ca_cons (ce_var 0) ca_nil))) (cw_and1 (ct_lt (ce_add (ce_var 3) (ce_var 5)) (ce_lenG rfl g_len (ca_cons (ce_ix hu1 (ce_var 0) (ce_var 2)) ca_nil)))))) (css_cons (cs_asg (ce_tup (ca_cons (ce_ix hu1 (ce_ix hu1 (ce_var 0) (ce_var 2)) (ce_var 3)) (ca_cons (ce_ix hu1 (ce_ix hu1 (ce_var 0) (ce_add (ce_var 2) (ce_var 4))) (ce_add (ce_var 3) (ce_var 5))) ca_nil))) (cg_name sc__law_beside.nd rfl (by first | exact Or.inl rfl | exact Or.inr rfl)))
    (css_one (cs_if (ct_nin ce_non (ce_var 6) hu rfl) (css_one (cs_expr (ce_append (ce_var 1) (ca_cons (ce_tup (ca_cons (ce_min1G rfl rfl g_min (ca_cons (ce_var 6) ca_nil)) (ca_cons (ce_max1G rfl rfl g_max (ca_cons (ce_var 6) ca_nil)) ca_nil))) ca_nil)))) css_nil))) css_nil)))))))
    (css_one (cs_ret (ce_sortG rfl rfl g_sorted (ca_cons (ce_var 1) ca_nil))))))
abbrev s_law : Stmt := topS 33
abbrev N_law : List Str := [("_law_script" : Str), ("_law_k" : Str), ("_law_purse_here" : Str), ("_law_great" : Str), ("_law_way" : Str), ("_law_laid" : Str), ("_law_country" : Str), ("_law_turn" : Str), ("_law_pair" : Str)]
theorem sc_law : FnScope N_law ["_law_script"] (defScope s_law) := C8.fnScope_by (by decide +kernel)
def m_law : M Flow := (seqM (forM (rng1 (evC (bltM maxG (evC (cn (.int 2)) (evC (bltM minG (evC (bltM lenG (evC (vr 0) evN)) (evC (cn (.int 5)) evN))) evN))) evN)) (setM 1) (seqM (stM (setM 2) (callM fn__law_purse 1 [] (evC (callM fn__law_cell 2 [] (evC (vr 0) (evC (vr 1) evN))) evN)))
  (seqM (parM 3 4 (evC (cmpV eqB (callM fn__law_pick 2 [] (evC (vr 2) (evC (cn (.int 8)) evN))) (cn (.int 3))) (evC (callM fn__law_pick 2 [] (evC (vr 2) (evC (cn (.int 2)) evN))) evN)))
  (seqM (stM (setM 5) (callM fn__law_land 2 [] (evC (vr 2) (evC (bin ixF (lstM (evC (cn (.int 4)) (evC (cn (.int 6)) evN))) (bltM intF (evC (vr 3) evN))) evN))))
  (seqM (stM (setM 6) (ifV (cmpT eqB (vr 4) (cn (.int 0))) (mkM "Land" fn_Land_init 2 [] (evC (vr 5) evN)) (mkK "Land" fn_Land_init 2 0 1 [0, 0] [] evN (evC (vr 5) evN))))
  (seqM (forM (rng1 (evC (cn (.int 2)) evN)) (setM 7) (seqM (ifS (orT (notT (truM (bltM isiF (evC (attM ["Land"] "rows" (vr 6)) (evC (cn (.ty "tuple")) evN))))) (orT (cmpT neB (attM ["Land"] "rows" (vr 6)) (vr 5)) (notT (truM (callM fn__law_each_right 2 [] (evC (vr 6) (evC (vr 5) evN))))))) (rtM (cn (.bl false))) (ret .nx))
  (ifS (orT (cmpT neB (methM ["Land"] "names" fn_Land_names 1 [] (vr 6) evN) (bltM tupF (evC (callM fn__law_names 1 [] (evC (vr 5) evN)) evN))) (cmpT neB (methM ["Land"] "borders" fn_Land_borders 1 [] (vr 6) evN) (bltM tupF (evC (callM fn__law_beside 1 [] (evC (vr 5) evN)) evN)))) (rtM (cn (.bl false))) (ret .nx))))
  (ifS (notT (truM (bltM allF (evC (lcM (srcM (methM ["Land"] "borders" fn_Land_borders 1 [] (vr 6) evN)) (setM 8) (ret true) (bltM isiF (evC (vr 8) (evC (cn (.ty "tuple")) evN))) [8]) evN)))) (rtM (cn (.bl false))) (ret .nx))))))))
  (rtM (cn (.bl true))))
def fn_law : Fn := mkFn 9 m_law
theorem ok_law {P : Program} {w : World} {K : PySem.W.Frag} {mg : Str → Option Value} {base : Heap} {dvs : List V} {f : Addr} {fd : FuncData} (F : FunD K "law" "law" (defArgs s_law) (defBody s_law) (defScope s_law) dvs [] f fd) (g_Land : mg "Land" = some (.ref (He.ga K "Land"))) (g_all : mg "all" = none) (g_int : mg "int" = none) (g_isinstance : mg "isinstance" = none) (g_len : mg "len" = none) (g_max : mg "max" = none) (g_min : mg "min" = none) (g_range : mg "range" = none) (g_tuple : mg "tuple" = none) (hf_rows : ∀ c ∈ (["Land"] : List Str), Cls K (He.ga K c) ∧ NoAttr K (He.ga K c) "rows") (c__law_beside : Cal P w K mg base 1 "_law_beside" 1 fn__law_beside []) (c__law_cell : Cal P w K mg base 1 "_law_cell" 2 fn__law_cell []) (c__law_each_right : Cal P w K mg base 5 "_law_each_right" 2 fn__law_each_right []) (c__law_land : Cal P w K mg base 4 "_law_land" 2 fn__law_land []) (c__law_names : Cal P w K mg base 1 "_law_names" 1 fn__law_names []) (c__law_pick : Cal P w K mg base 1 "_law_pick" 2 fn__law_pick []) (c__law_purse : Cal P w K mg base 1 "_law_purse" 1 fn__law_purse []) (mk_Land_init : CalI P w K mg base 4 "Land" 2 fn_Land_init []) (mkk_Land_init_0_rows : CalIK P w K mg base 4 "Land" 2 fn_Land_init 0 ["rows"] [0, 0] []) (mt_Land_borders : CalM P w K mg base 3 "Land" "borders" 1 fn_Land_borders []) (mt_Land_names : CalM P w K mg base 3 "Land" "names" 1 fn_Land_names []) :
    FnOk P w K mg base (L2.CX P w) 6 f fd ["_law_script"] (spOf K 1 fn_law) := by
  refine fn_ok (N := N_law) (m := m_law) F sc_law (by decide) fun cdv A outer s H E hr => ?_
  have tk := tk_cx (P := P) (w := w) (K := K) (mg := mg) (base := base) (qual := "law") (scope := defScope s_law) (f := f) (N := N_law) (cdv := cdv) (A := A) (outer := outer) (s := s) (H := H) (E := E)
  have ho := ps_cx (P := P) (w := w) (K := K) (mg := mg) (base := base) (qual := "law") (scope := defScope s_law) (f := f) (N := N_law) (cdv := cdv) (A := A) (outer := outer) (s := s) (H := H) (E := E)
  have hun := hr.un
  have hu : (cxOf (L2.CX P w) P w K mg base N_law "law" (defScope s_law) f cdv A outer s H E).A.units + 65 < cLine := by show (A.deeper _).units + 65 < cLine; omega
  have hu1 : (cxOf (L2.CX P w) P w K mg base N_law "law" (defScope s_law) f cdv A outer s H E).A.units + 1 < cLine := by show (A.deeper _).units + 1 < cLine; omega
  exact (css_cons (cs_for ho rfl (ci_range1 rfl g_range (ca_cons (ce_max2G rfl rfl g_max (ca_cons ce_int (ca_cons (ce_min2G rfl rfl g_min (ca_cons (ce_lenG rfl g_len (ca_cons (ce_var 0) ca_nil)) (ca_cons ce_int ca_nil))) ca_nil))) ca_nil)) (cg_name sc_law.nd rfl (by first | exact Or.inl rfl | exact Or.inr rfl)) (css_cons (cs_asg (ce_c c__law_purse hr (by decide) tk rfl (ca_cons (ce_c c__law_cell hr (by decide) tk rfl (ca_cons (ce_var 0) (ca_cons (ce_var 1) ca_nil))) ca_nil)) (cg_name sc_law.nd rfl (by first | exact Or.inl rfl | exact Or.inr rfl)))
    (css_cons (cs_par rfl sc_law.nd rfl rfl (by decide) rfl rfl (ca_cons (ce_eq (ce_c c__law_pick hr (by decide) tk rfl (ca_cons (ce_var 2) (ca_cons ce_int ca_nil))) ce_int hu) (ca_cons (ce_c c__law_pick hr (by decide) tk rfl (ca_cons (ce_var 2) (ca_cons ce_int ca_nil))) ca_nil)) rfl)
    (css_cons (cs_asg (ce_c c__law_land hr (by decide) tk rfl (ca_cons (ce_var 2) (ca_cons (ce_ix hu1 (ce_lst (ca_cons ce_int (ca_cons ce_int ca_nil))) (ce_intc rfl g_int (ca_cons (ce_var 3) ca_nil))) ca_nil))) (cg_name sc_law.nd rfl (by first | exact Or.inl rfl | exact Or.inr rfl)))
    (css_cons (cs_asg (ce_if (ct_eq (ce_var 4) ce_int hu) (ce_mk mk_Land_init hr (by decide) tk rfl (ca_cons (ce_var 5) ca_nil)) (ce_mkK0 mkk_Land_init_0_rows hr (by decide) tk rfl (ck_cons (ce_var 5) ck_nil))) (cg_name sc_law.nd rfl (by first | exact Or.inl rfl | exact Or.inr rfl)))
    (css_cons (cs_for ho rfl (ci_range1 rfl g_range (ca_cons ce_int ca_nil)) (cg_name sc_law.nd rfl (by first | exact Or.inl rfl | exact Or.inr rfl)) (css_cons (cs_if (ct_ofW (cw_or (ct_not (ct_tru (ce_isi rfl g_isinstance (ca_cons (ce_att hf_rows (ce_var 6)) (ca_cons (ce_tyn rfl g_tuple (by decide +kernel)) ca_nil))))) (cw_or (ct_ne (ce_att hf_rows (ce_var 6)) (ce_var 5) hu) (cw_or1 (ct_not (ct_tru (ce_c c__law_each_right hr (by decide) tk rfl (ca_cons (ce_var 6) (ca_cons (ce_var 5) ca_nil))))))))) (css_one (cs_ret ce_bl)) css_nil)
    (css_one (cs_if (ct_ofW (cw_or (ct_ne (ce_mt0 mt_Land_names hr (by decide) tk (ce_var 6)) (ce_tuplec rfl g_tuple (ca_cons (ce_c c__law_names hr (by decide) tk rfl (ca_cons (ce_var 5) ca_nil)) ca_nil)) hu) (cw_or1 (ct_ne (ce_mt0 mt_Land_borders hr (by decide) tk (ce_var 6)) (ce_tuplec rfl g_tuple (ca_cons (ce_c c__law_beside hr (by decide) tk rfl (ca_cons (ce_var 5) ca_nil)) ca_nil)) hu)))) (css_one (cs_ret ce_bl)) css_nil))))
    (css_one (cs_if (ct_not (ct_tru (ce_allc rfl rfl g_all (ca_cons (ce_lc (own := [("_law_pair", 8)]) rfl sc_law.nd (ci_any (ce_mt0 mt_Land_borders hr (by decide) tk (ce_var 6))) (by refine blkOk_by (own := [("_law_pair", 8)]) (N := N_law) (sc := (defScope s_law)) ?_; decide +kernel) (fun _ _ _ _ _ => (cg_name sc_law.nd rfl (by first | exact Or.inl rfl | exact Or.inr rfl))) (fun _ _ _ _ _ => cts_nil) (fun _ _ _ _ _ => (ce_isi rfl g_isinstance (ca_cons (ce_var 8) (ca_cons (ce_tyn rfl g_tuple (by decide +kernel)) ca_nil))))) ca_nil)))) (css_one (cs_ret ce_bl)) css_nil))))))))
    (css_one (cs_ret ce_bl)))
end Mi

set_option Elab.async false
set_option linter.all false
set_option maxRecDepth 100000
set_option maxHeartbeats 400000
namespace Mi
open PySem L2
local macro_rules | `(tactic| simp_arith [$ls,*]) => `(tactic| simp -implicitDefEqProofs only [w_ins, obF_o, clB_1, w_att, w_meth, w_methK, w_mk, w_mkI, w_mkK, w_mkKI, noneO_n, w_setI, w_fld, ap_get, ap_set, few_0, few_1, few_2, few_3, putI_0, lck_v1, lck_v0, w_ds, w_dsO, w_aug, w_augS, par3_c, w_par3, lenG_l, lenG_t, lenG_r, lenG_d, lenG_s, minG_i, maxG_i, w_frz, w_bnd, w_ret, w_stuck, w_opt, w_vr, w_cn, w_lookV, w_lookS, w_flatV, w_flatS, w_ownV, w_ownS, w_movV, w_movS, w_ifS, w_ifV, w_andT, w_orT, w_notT, w_truM, w_andV, w_orV, w_notV, Sq_nx, Sq_bk, Sq_ct, Sq_rt, w_seq, w_bin, w_uno, w_cmpV, w_cmpT, w_chV, w_chT, w_st, w_rt, w_exM, w_set, w_evN, w_evC, w_flats0, w_flats, w_fzo, w_fzos0, w_fzos, w_blt, w_tup, w_lst, w_stO, w_idx, gt_0, gt_V, gt_S, w_call, w_callO, fill_0, fill_n, fill_s, dfl_0, dfl_c, w_callV, w_callK, fin_rt, fin_nx, pins_0, pins_n, pins_t, w_src, w_srS, srS_l0, srS_l1, srS_t, srS_c, srS_s, srS_d0, srS_d1, srV_l0, srV_l1, srV_t, srV_c, srV_s, srV_d, w_rng1, w_en, on1_c, w_enV, w_enS, enS_t, enS_s, enS_l0, enS_l1, w_prt, prF_i, w_sl, w_sm, sF_s, w_lm, w_lmP, lF_l, w_lmO, lmS_l, w_par, par2_c, w_tupG, tpF_t1, tpF_t2, tpF_t3, tpF_t4, tpF_l2, tpF_l3, w_setsN, w_setsC, w_prsN, w_prsC, w_dct, w_get, dF_d, w_for, tn_nx, tn_ct, tn_bk, tn_rt, w_lc, w_step, atS_s, atT_s, atO_s, Bt_t, Bt_f, Gd_t, z0_0, z0_1, z0_2, z0_s, le1_0, le1_1, fz_0, fz_all, fz_l1, leC_k0, leC_k1, leC_k2, leC_k3, leC_k4, leC_k5, leC_k6, leC_k7, leC_k8, leC_k9, leC_k10, leC_k11, leC_k12, leC_k13, leC_k14, leC_k15, leC_k16, pin_s, pin_n, neq_t, wipe_0, wipe_c, back_0, back_c, unp_0, unp_c, List.getElem?_cons_zero, List.getElem?_cons_succ, List.set_cons_zero, List.set_cons_succ, Bool.not_true, Bool.not_false, Bool.and_true, Bool.true_and, Bool.and_false, List.map_cons, List.map_nil, List.length_cons, List.length_nil, List.take_succ_cons, List.take_zero, List.cons_append, List.nil_append, Option.map_some, List.getD_cons_zero, List.getD_cons_succ, Option.getD_some, Option.getD_none, Nat.reduceAdd, Nat.zero_add, Nat.reduceSub, List.replicate, Nat.add_zero, if_true, if_false, ite_true, ite_false, Bool.false_eq_true, reduceIte, add_i, sub_i, lt_i, gt_i, ge_i, le_i, int_b, int_i, tru_b, tru_i, tru_n, tru_l, tru_t, len_l, len_t, len_r, tup_l, tup_t, is_n, pop0, decide_true, decide_false, Nat.reduceLeDiff, $ls,*])

/-! ### the law's draws -/
theorem small_mod (a : Int) : small64 (a % 1000000033) = true := by
  have h1 := Int.emod_nonneg a (show (1000000033 : Int) ≠ 0 by decide)
  have h2 := Int.emod_lt_of_pos a (show (0 : Int) < 1000000033 by decide)
  exact small_of (by omega) (by omega)
theorem small_701 : small64 70001 = true := by decide
theorem pos_p : (0 : Int) < 1000000033 := by decide
theorem pos_6 : (0 : Int) < 60013 := by decide
theorem pos_16 : (0 : Int) < 16 := by decide
theorem lt_16 : (16 : Int) < 1073741824 := by decide
theorem ix3_0 (a b c : D) : ixF (.lst [a, b, c]) (.int 0) = some (a, 0) := rfl
theorem ix3_1 (a b c : D) : ixF (.lst [a, b, c]) (.int 1) = some (b, 0) := rfl
theorem ix3_2 (a b c : D) : ixF (.lst [a, b, c]) (.int 2) = some (c, 0) := rfl
theorem st3_0 (a b c d : D) (p : Bool) : stO ⟨.lst [a, b, c], 1, p⟩ (.int 0) d = some ⟨.lst [d, b, c], 1, p⟩ := rfl
theorem st3_1 (a b c d : D) (p : Bool) : stO ⟨.lst [a, b, c], 1, p⟩ (.int 1) d = some ⟨.lst [a, d, c], 1, p⟩ := rfl
theorem st3_2 (a b c d : D) (p : Bool) : stO ⟨.lst [a, b, c], 1, p⟩ (.int 2) d = some ⟨.lst [a, b, d], 1, p⟩ := rfl
def prs (a b c : Int) : D := .lst [.int a, .int b, .int c]
/-- what a pick gives: a number below m, and the purse moved on -/
def PkQ (m : Int) (S : List Inst) (d : D) (k : Nat) (outs : List (Option Slot)) (S' : List Inst) : Prop := ∃ (v : Nat) (a b c : Int), d = .int (v : Int) ∧ (v : Int) < m ∧ k = 0 ∧ outs = [some ⟨prs a b c, 1, true⟩, some ⟨.int m, 0, false⟩] ∧ S = S'
theorem pick_s {a b c m : Int} (hm : 0 < m) (hm2 : m < 1073741824) {S : List Inst} : FOk fn__law_pick [⟨prs a b c, 1, true⟩, ⟨.int m, 0, false⟩] S (PkQ m S) := by
  unfold fn__law_pick m__law_pick prs
  rw [f_fn]
  simp_arith [mul_l (small_mod _), mul_l small_701, mod_p pos_p, mod_p pos_6, ix3_0, ix3_1, ix3_2, st3_0, st3_1, st3_2]
  refine Bt_by (fun _ => ?_) (fun _ => ?_)
  · simp_arith [mod_p hm, div_p hm hm2, ix3_0, ix3_1, ix3_2, st3_0, st3_1, st3_2]
    have h1 := Int.emod_nonneg b (show m ≠ 0 by omega)
    have h2 := Int.emod_lt_of_pos b hm
    exact ⟨(b % m).toNat, _, _, _, by rw [Int.toNat_of_nonneg h1], by omega, rfl, rfl, rfl⟩
  · simp_arith [mod_p pos_p, mod_p hm, div_p pos_16 lt_16, ix3_0, ix3_1, ix3_2, st3_0, st3_1, st3_2]
    have h1 := fun z : Int => Int.emod_nonneg z (show m ≠ 0 by omega)
    have h2 := fun z : Int => Int.emod_lt_of_pos z hm
    refine ⟨Int.toNat _, _, _, _, by rw [Int.toNat_of_nonneg (h1 _)], ?_, rfl, rfl, rfl⟩
    rw [Int.toNat_of_nonneg (h1 _)]
    exact h2 _
theorem pow18 : powD (.int 10) (.int 18) = some (.int 1000000000000000000, 0) := by rfl
theorem small_8009 : small64 8009 = true := by decide
theorem ix2_b (a b : Int) (k : Bool) : ∃ c, ixF (.lst [.int a, .int b]) (.int (if k = true then 1 else 0)) = some (.int c, 0) := by
  cases k
  · exact ⟨a, rfl⟩
  · exact ⟨b, rfl⟩
def PuQ (S : List Inst) (d : D) (k : Nat) (outs : List (Option Slot)) (S' : List Inst) : Prop := ∃ a b c, d = prs a b c ∧ k = 1 ∧ S = S'
theorem purse_s {v : Int} {S : List Inst} : FOk fn__law_purse [⟨.int v, 0, false⟩] S (PuQ S) := by
  unfold fn__law_purse m__law_purse
  rw [f_fn]
  obtain ⟨x, hx⟩ := ix2_b 0 v (!decide (v < 1000000000000000000))
  simp_arith [mul_r small_8009, mod_p pos_p, pow18, hx]
  exact ⟨_, _, _, rfl, rfl, rfl⟩
theorem small_90007 : small64 90007 = true := by decide
theorem small_30029 : small64 30029 = true := by decide
theorem small_5 : small64 5 = true := by decide
theorem small_nat {i : Nat} (hi : i < 100) : small64 ((i : Nat) : Int) = true := small_of (by omega) (by omega)
def ClQ (S : List Inst) (d : D) (k : Nat) (outs : List (Option Slot)) (S' : List Inst) : Prop := ∃ v, d = .int v ∧ k = 0 ∧ S = S'
theorem cell_s {ns : List Int} {i : Nat} (hi : i < 100) {S : List Inst} : FOk fn__law_cell [⟨.scr (ns.map D.int), 0, false⟩, ⟨.int (i : Nat), 0, false⟩] S (ClQ S) := by
  unfold fn__law_cell m__law_cell
  rw [f_fn]
  simp_arith []
  refine Bt_by (fun h => ?_) (fun _ => ?_)
  · have h' : i < ns.length := by
      have := of_decide_eq_true h
      rw [List.length_map] at this
      omega
    have hx : ixF (.scr (ns.map D.int)) (.int (i : Nat)) = some (.int ns[i], 0) := ix_c (by rw [List.getElem?_map, List.getElem?_eq_getElem h']; rfl)
    simp_arith [hx]
    exact ⟨_, rfl, rfl, rfl⟩
  · have hs := small_nat hi
    have hc : slF (.scr (ns.map D.int)) none (some 4) = some (.lst ((ns.map D.int).take (min 4 (ns.map D.int).length)), 1) := by
      show some (D.lst (cutD _ _ _), 1) = _
      unfold cutD
      rw [show (some 4 : Option Int) = some ((4 : Nat) : Int) from rfl, HT.sIx_nat, HT.sIx_none, List.drop_zero]
      rfl
    simp_arith [mul_l small_90007, mul_l small_5, mul_l hs, mod_p pos_p, hc]
    refine wp_for (fun rest s => (∃ ms : List Int, rest = ms.map D.int) ∧ ∃ v o, s = ⟨[some ⟨.scr (ns.map D.int), 0, false⟩, some ⟨.int (i : Nat), 0, false⟩, some ⟨.int v, 0, false⟩, o], S⟩ ∧ pinned o = false) ⟨⟨ns.take (min 4 (ns.map D.int).length), by rw [List.map_take]⟩, _, _, rfl, rfl⟩ (fun d rest s hI => ?_) (fun s hI => ?_)
    · obtain ⟨⟨ms, hm⟩, v, o, rfl, ho⟩ := hI
      cases ms with
      | nil => cases hm
      | cons m ms =>
        cases hm
        simp_arith [ho, mul_r small_30029, mod_p pos_p]
        exact ⟨⟨ms, rfl⟩, _, _, rfl, rfl⟩
    · obtain ⟨_, v, o, rfl, ho⟩ := hI
      simp_arith []
      exact ⟨_, rfl, rfl, rfl⟩

/-! ### words -/
/-- a good word -/
def gw (l : List Nat) : Prop := 1 ≤ l.length ∧ l.length ≤ 8 ∧ ∀ c ∈ l, 97 ≤ c ∧ c ≤ 122
def gwb (x : Str) : Bool := decide (1 ≤ x.cps.toList.length) && decide (x.cps.toList.length ≤ 8) && x.cps.toList.all fun c => decide (97 ≤ c) && decide (c ≤ 122)
theorem gw_b {x : Str} (h : gwb x = true) : ∃ l, D.str x = dt l ∧ gw l := by
  unfold gwb at h
  simp only [Bool.and_eq_true, decide_eq_true_eq, List.all_eq_true] at h
  exact ⟨x.cps.toList, by unfold dt; rw [tx_of], h.1.1, h.1.2, h.2⟩
theorem add_l {a b : List D} (h : a.length + b.length ≤ cap) : addD (.lst a) (.lst b) = some (.lst (a ++ b), 1) := if_pos h
theorem add_l2 {a b : List D} : addD (.lst a) (.lst b) = if a.length + b.length ≤ cap then some (.lst (a ++ b), 1) else none := rfl
theorem p3 : (0 : Int) < 3 := by decide
theorem q3 : (3 : Int) < 1073741824 := by decide
theorem p4 : (0 : Int) < 4 := by decide
theorem q4 : (4 : Int) < 1073741824 := by decide
theorem p26 : (0 : Int) < 26 := by decide
theorem q26 : (26 : Int) < 1073741824 := by decide
theorem p5 : (0 : Int) < 5 := by decide
theorem q5 : (5 : Int) < 1073741824 := by decide
theorem p8 : (0 : Int) < 8 := by decide
theorem q8 : (8 : Int) < 1073741824 := by decide
theorem p2 : (0 : Int) < 2 := by decide
theorem q2 : (2 : Int) < 1073741824 := by decide
theorem eq_i (a b : Int) : eqB (.int a) (.int b) = some (decide (a = b)) := by
  rw [eq_pl (pl_i _ _) (pl_i _ _), deq_i]
theorem ne_i (a b : Int) : neB (.int a) (.int b) = some (!decide (a = b)) := by
  rw [ne_pl (pl_i _ _) (pl_i _ _), deq_i]
/-- an item of three numbers, all with P -/
theorem ix_P {ds : List D} {v : Nat} (P : D → Prop) (h1 : (v : Int) < ds.length) (h : ∀ d ∈ ds, P d) : ∃ d, ixF (.lst ds) (.int (v : Int)) = some (d, 0) ∧ P d := by
  obtain ⟨d, hd, e⟩ := ix_any (ds := ds) (v := (v : Int)) (by omega) h1
  exact ⟨d, e, h d hd⟩
end Mi

set_option Elab.async false
set_option linter.all false
set_option maxRecDepth 100000
set_option maxHeartbeats 1000000
namespace Mi
open PySem L2


/-! ### what many need -/
theorem rng_len (n : Nat) : (rngD 0 n).length = n := by
  unfold rngD
  rw [List.length_map, List.length_range]
theorem str_abcde : ("abcde" : Str) = tx [97, 98, 99, 100, 101] := by decide
theorem ix_abcde {v : Nat} (h : (v : Int) < 5) : ixF (.str "abcde") (.int (v : Int)) = some (d1 (97 + v), 0) := by
  rw [str_abcde]
  refine ix_s (by decide) ?_
  exact (show ∀ k, k < 5 → ([97, 98, 99, 100, 101] : List Nat)[k]? = some (97 + k) by decide) v (by omega)
theorem cap_big : 1000 ≤ cap := by decide
theorem ix_two {P : D → Prop} {a b : D} {v : Nat} (h : (v : Int) < 2) (ha : P a) (hb : P b) : ∃ d, ixF (.lst [a, b]) (.int (v : Int)) = some (d, 0) ∧ P d := by
  have h' : v < 2 := by omega
  match v, h' with
  | 0, _ => exact ⟨a, rfl, ha⟩
  | 1, _ => exact ⟨b, rfl, hb⟩
theorem str_nil : ("" : Str) = tx [] := by decide
theorem srS_dt {i : Nat} {r : List (Option Slot)} {S : List Inst} {k : Nat} (l : List Nat) (p : Bool) (Q : Src → Sx → Prop) : srS i ⟨dt l, k, p⟩ r S Q = Q (.fix (l.map d1)) ⟨r, S⟩ := rfl
theorem neg_i (i : Int) : negF (.int i) = some (.int (-i), 0) := rfl
theorem cut_m8 {l : List Nat} (h : l.length ≤ cap) : slF (dt l) (some (-8)) none = some (dt (l.drop (l.length - 8)), 0) := by
  have e : HT.sIx l.length 0 (some (-8)) = l.length - 8 := by
    show (if (-8 : Int) < 0 then ((-8 : Int) + (l.length : Int)).toNat else min (-8 : Int).toNat l.length) = _
    rw [if_pos (by decide)]
    omega
  rw [slice_s h, e, HT.sIx_none, List.take_of_length_le (by simp)]
theorem gwc {l : List Nat} (h : gw l) : l.length ≤ cap := Nat.le_trans h.2.1 (by decide)
theorem le8c {n : Nat} (h : n ≤ 9) : n ≤ cap := Nat.le_trans h (by decide)
theorem isi_ss (x : Str) : isiF [.str x, .ty "str"] = some (.bl true, 0) := rfl
theorem isi_ts (x : List D) : isiF [.tup x, .ty "str"] = some (.bl false, 0) := rfl
theorem isi_tt (x : List D) : isiF [.tup x, .ty "tuple"] = some (.bl true, 0) := rfl
theorem isi_nt : isiF [.non, .ty "tuple"] = some (.bl false, 0) := rfl
theorem isi_ns : isiF [.non, .ty "str"] = some (.bl false, 0) := rfl
theorem isi_st (x : Str) : isiF [.str x, .ty "tuple"] = some (.bl false, 0) := rfl
theorem isi_d (x : List Nat) : isiF [dt x, .ty "str"] = some (.bl true, 0) := rfl
theorem isi_1 (x : Nat) : isiF [d1 x, .ty "str"] = some (.bl true, 0) := rfl
theorem join_d1 (ls : List Nat) (h : ls.length ≤ 16777216) : joinF "" [.lst (ls.map d1)] = some (dt ls, 0) := by
  have e := join0 (ls := ls.map fun c => [c]) (by
    rw [List.map_map]
    have : (ls.map (List.length ∘ fun c => [c])).sum = ls.length := by
      clear h
      induction ls with
      | nil => rfl
      | cons x ls ih => rw [List.map_cons, List.sum_cons, ih, List.length_cons]; simp only [Function.comp]; rw [List.length_singleton]; omega
    rw [this]
    exact h)
  rw [List.map_map] at e
  have e2 : (ls.map fun c => [c]).flatten = ls := by
    clear h e
    induction ls with
    | nil => rfl
    | cons x ls ih => rw [List.map_cons, List.flatten_cons, ih]; rfl
  rw [e2] at e
  rw [str_nil]
  exact e
theorem dt_str (l : List Nat) : dt l = .str (tx l) := rfl
theorem all_t (X : List D) (h : ∀ d ∈ X, d = .bl true) : allF [.lst X] = some (.bl true, 0) := by
  have e : blsOf X = some (X.map fun _ => true) := by
    induction X with
    | nil => rfl
    | cons x X ih =>
      rw [h x (List.mem_cons_self ..)]
      show (blsOf X).map (true :: ·) = _
      rw [ih fun d hd => h d (List.mem_cons_of_mem _ hd)]
      rfl
  show (blsOf X).map _ = _
  rw [e, Option.map_some]
  congr 3
  rw [List.all_map]
  exact List.all_eq_true.mpr fun _ _ => rfl
theorem any_f (X : List D) (h : ∀ d ∈ X, d = .bl false) : anyF [.lst X] = some (.bl false, 0) := by
  have e : blsOf X = some (X.map fun _ => false) := by
    induction X with
    | nil => rfl
    | cons x X ih =>
      rw [h x (List.mem_cons_self ..)]
      show (blsOf X).map (false :: ·) = _
      rw [ih fun d hd => h d (List.mem_cons_of_mem _ hd)]
      rfl
  show (blsOf X).map _ = _
  rw [e, Option.map_some]
  congr 3
  rw [List.any_map]
  exact List.any_eq_false.mpr fun _ _ => by simp
theorem in_abc {c : Nat} (h : 97 ≤ c ∧ c ≤ 122) : inB (d1 c) (.str "abcdefghijklmnopqrstuvwxyz") = some true := by
  rw [str_abc, show D.str (tx abc) = dt abc from rfl, in_s]
  congr 1
  refine decide_eq_true ?_
  have : ∀ k, k < 26 → 97 + k ∈ abc := by decide
  have := this (c - 97) (by omega)
  rwa [show 97 + (c - 97) = c by omega] at this
theorem in_pl {x : D} {ds : List D} (h : pl 64 x = true) (g : pl 64 (.lst ds) = true) : inB x (.lst ds) = some (ds.any fun z => deq z x) := by
  have hL : plL 63 ds = true := g
  show (match pyd x, pydL ds with
    | some y, some ys => if SeqAt.shaped y && SeqAt.shaped (.list ys) then some (ys.any fun z => PyData.eqv z y) else none
    | _, _ => none) = _
  rw [pl_pyd _ _ h, pl_pydL _ _ hL]
  have h1 := pl_lay _ _ h
  have g1 := pl_lay _ _ g
  have s1 : SeqAt.shaped (pdt x) = true := by
    unfold SeqAt.shaped
    rw [h1.1, decide_eq_true h1.2]
    rfl
  have s2 : SeqAt.shaped (.list (pdtL ds)) = true := by
    have e : (PyData.list (pdtL ds)) = pdt (.lst ds) := rfl
    unfold SeqAt.shaped
    rw [e, g1.1, decide_eq_true g1.2]
    rfl
  dsimp only
  rw [s1, s2, if_pos (by rfl)]
  congr 1
  clear g1 s2 g
  induction ds with
  | nil => rfl
  | cons d ds ih =>
    have h' : pl 63 d = true ∧ plL 63 ds = true := by simpa [plL] using hL
    show (PyData.eqv (pdt d) (pdt x) || (pdtL ds).any _) = (deq d x || ds.any _)
    rw [ih h'.2]
    congr 1
    rw [Bool.eq_iff_iff, eqv_pl _ _ _ _ h'.1 h, deq_iff]
theorem r1_map {n : Nat} (h : n < 1000000000) : r1F [.int (n : Int)] = some ((List.range n).map fun i : Nat => D.int (i : Int)) := by
  rw [r1_of h, rng_map]
theorem bls_map {X : Type} (xs : List X) (g : X → Bool) : blsOf (xs.map fun x => D.bl (g x)) = some (xs.map g) := by
  induction xs with
  | nil => rfl
  | cons x xs ih =>
    show (blsOf (xs.map fun x => D.bl (g x))).map (g x :: ·) = _
    rw [ih]
    rfl
theorem fill_n1 (a : Slot) (outs r : List (Option Slot)) : fill [(a, none)] outs r = r := by cases outs <;> rfl
theorem fill_n2 (a b : Slot) (outs r : List (Option Slot)) : fill [(a, none), (b, none)] outs r = r := by
  cases outs with
  | nil => rfl
  | cons o os => exact fill_n1 b os r
theorem fill_n3 (a b c : Slot) (outs r : List (Option Slot)) : fill [(a, none), (b, none), (c, none)] outs r = r := by
  cases outs with
  | nil => rfl
  | cons o os => exact fill_n2 b c os r
theorem fill_n4 (a b c d : Slot) (outs r : List (Option Slot)) : fill [(a, none), (b, none), (c, none), (d, none)] outs r = r := by
  cases outs with
  | nil => rfl
  | cons o os => exact fill_n3 b c d os r
theorem fill_n5 (a b c d e : Slot) (outs r : List (Option Slot)) : fill [(a, none), (b, none), (c, none), (d, none), (e, none)] outs r = r := by
  cases outs with
  | nil => rfl
  | cons o os => exact fill_n4 b c d e os r
def NoQ (S : List Inst) (d : D) (k : Nat) (outs : List (Option Slot)) (S' : List Inst) : Prop := d = .non ∧ k = 0 ∧ S = S'
def BlQ (b : Bool) (S : List Inst) (d : D) (k : Nat) (outs : List (Option Slot)) (S' : List Inst) : Prop := d = .bl b ∧ k = 0 ∧ S = S'
theorem lenG_dt (l : List Nat) : lenG [dt l] = lenF [dt l] := lenG_s _
theorem pk_210 (a b c d : Op) : pickL [2, 1, 0] [a, b, c, d] = [c, b, a] := rfl
theorem pk_0004 (a b c d : Op) : pickL [0, 0, 0] [a, b, c, d] = [a, b, c] := rfl
theorem pk_000 (a b c : Op) : pickL [0, 0, 0] [a, b, c] = [a, b, c] := rfl
theorem pk_10 (a b c : Op) : pickL [1, 0] [a, b, c] = [b, a] := rfl
theorem pk_00 (a b : Op) : pickL [0, 0] [a, b] = [a, b] := rfl
theorem pk_0 (a : Op) : pickL [0] [a] = [a] := rfl
theorem eq_refl {d : D} (h : pl 64 d = true) : eqB d d = some true := by rw [eq_pl h h, deq_pos rfl]
theorem ne_refl {d : D} (h : pl 64 d = true) : neB d d = some false := by
  rw [ne_pl h h, deq_pos rfl]
  rfl
theorem min_i (i j : Int) : minF [.int i, .int j] = some (.int (if j < i then j else i), 0) := rfl
theorem max_i (i j : Int) : maxF [.int i, .int j] = some (.int (if j > i then j else i), 0) := rfl
end Mi

set_option Elab.async false
set_option linter.all false
set_option maxRecDepth 100000
set_option maxHeartbeats 1000000
namespace Mi
open PySem L2
local macro_rules | `(tactic| simp_arith [$ls,*]) => `(tactic| simp -implicitDefEqProofs only [w_ins, obF_o, clB_1, w_att, w_meth, w_methK, w_mk, w_mkI, w_mkK, w_mkKI, noneO_n, w_setI, w_fld, ap_get, ap_set, few_0, few_1, few_2, few_3, putI_0, lck_v1, lck_v0, w_ds, w_dsO, w_aug, w_augS, par3_c, w_par3, lenG_l, lenG_t, lenG_r, lenG_d, lenG_s, minG_i, maxG_i, w_frz, w_bnd, w_ret, w_stuck, w_opt, w_vr, w_cn, w_lookV, w_lookS, w_flatV, w_flatS, w_ownV, w_ownS, w_movV, w_movS, w_ifS, w_ifV, w_andT, w_orT, w_notT, w_truM, w_andV, w_orV, w_notV, Sq_nx, Sq_bk, Sq_ct, Sq_rt, w_seq, w_bin, w_uno, w_cmpV, w_cmpT, w_chV, w_chT, w_st, w_rt, w_exM, w_set, w_evN, w_evC, w_flats0, w_flats, w_fzo, w_fzos0, w_fzos, w_blt, w_tup, w_lst, w_stO, w_idx, gt_0, gt_V, gt_S, w_call, w_callO, fill_0, fill_n, fill_s, dfl_0, dfl_c, w_callV, w_callK, fin_rt, fin_nx, pins_0, pins_n, pins_t, w_src, w_srS, srS_l0, srS_l1, srS_t, srS_c, srS_s, srS_d0, srS_d1, srV_l0, srV_l1, srV_t, srV_c, srV_s, srV_d, w_rng1, w_en, on1_c, w_enV, w_enS, enS_t, enS_s, enS_l0, enS_l1, w_prt, prF_i, w_sl, w_sm, sF_s, w_lm, w_lmP, lF_l, w_lmO, lmS_l, w_par, par2_c, w_tupG, tpF_t1, tpF_t2, tpF_t3, tpF_t4, tpF_l2, tpF_l3, w_setsN, w_setsC, w_prsN, w_prsC, w_dct, w_get, dF_d, w_for, tn_nx, tn_ct, tn_bk, tn_rt, w_lc, w_step, atS_s, atT_s, atO_s, Bt_t, Bt_f, Gd_t, z0_0, z0_1, z0_2, z0_s, le1_0, le1_1, fz_0, fz_all, fz_l1, leC_k0, leC_k1, leC_k2, leC_k3, leC_k4, leC_k5, leC_k6, leC_k7, leC_k8, leC_k9, leC_k10, leC_k11, leC_k12, leC_k13, leC_k14, leC_k15, leC_k16, pin_s, pin_n, neq_t, wipe_0, wipe_c, back_0, back_c, unp_0, unp_c, List.getElem?_cons_zero, List.getElem?_cons_succ, List.set_cons_zero, List.set_cons_succ, Bool.not_true, Bool.not_false, Bool.and_true, Bool.true_and, Bool.and_false, List.map_cons, List.map_nil, List.length_cons, List.length_nil, List.take_succ_cons, List.take_zero, List.cons_append, List.nil_append, Option.map_some, List.getD_cons_zero, List.getD_cons_succ, Option.getD_some, Option.getD_none, Nat.reduceAdd, Nat.zero_add, Nat.reduceSub, List.replicate, Nat.add_zero, if_true, if_false, ite_true, ite_false, Bool.false_eq_true, reduceIte, add_i, sub_i, lt_i, gt_i, ge_i, le_i, int_b, int_i, tru_b, tru_i, tru_n, tru_l, tru_t, len_l, len_t, len_r, tup_l, tup_t, is_n, pop0, decide_true, decide_false, Nat.reduceLeDiff, $ls,*])

/-! ### words are words -/
theorem isword_s {S : List Inst} {l : List Nat} (h : gw l) : FOk fn_is_word [⟨dt l, 0, false⟩] S (BlQ true S) := by
  unfold fn_is_word m_is_word
  rw [f_fn]
  have h1 := h.1
  have h2 := h.2.1
  simp_arith [isi_d, lenG_dt, len_s (gwc h), show decide ((l.length : Int) < 1) = false from decide_eq_false (by omega), show decide ((8 : Int) < (l.length : Int)) = false from decide_eq_false (by omega), srS_dt]
  refine wp_lcx (X := Nat) (xs := l) (h := d1) (fun _ => .bl true) (gwc h) rfl (fun x hx => ?_) ?_
  · simp_arith [in_abc (h.2.2 x hx)]
    exact ⟨rfl, rfl, rfl⟩
  · simp_arith [all_t (l.map fun _ => D.bl true) (fun d hd => by obtain ⟨_, _, rfl⟩ := List.mem_map.mp hd; rfl)]
    exact ⟨rfl, rfl, rfl⟩
end Mi

set_option Elab.async false
set_option linter.all false
set_option maxRecDepth 100000
set_option maxHeartbeats 1000000
namespace Mi
open PySem L2
local macro_rules | `(tactic| simp_arith [$ls,*]) => `(tactic| simp -implicitDefEqProofs only [w_ins, obF_o, clB_1, w_att, w_meth, w_methK, w_mk, w_mkI, w_mkK, w_mkKI, noneO_n, w_setI, w_fld, ap_get, ap_set, few_0, few_1, few_2, few_3, putI_0, lck_v1, lck_v0, w_ds, w_dsO, w_aug, w_augS, par3_c, w_par3, lenG_l, lenG_t, lenG_r, lenG_d, lenG_s, minG_i, maxG_i, w_frz, w_bnd, w_ret, w_stuck, w_opt, w_vr, w_cn, w_lookV, w_lookS, w_flatV, w_flatS, w_ownV, w_ownS, w_movV, w_movS, w_ifS, w_ifV, w_andT, w_orT, w_notT, w_truM, w_andV, w_orV, w_notV, Sq_nx, Sq_bk, Sq_ct, Sq_rt, w_seq, w_bin, w_uno, w_cmpV, w_cmpT, w_chV, w_chT, w_st, w_rt, w_exM, w_set, w_evN, w_evC, w_flats0, w_flats, w_fzo, w_fzos0, w_fzos, w_blt, w_tup, w_lst, w_stO, w_idx, gt_0, gt_V, gt_S, w_call, w_callO, fill_0, fill_n, fill_s, dfl_0, dfl_c, w_callV, w_callK, fin_rt, fin_nx, pins_0, pins_n, pins_t, w_src, w_srS, srS_l0, srS_l1, srS_t, srS_c, srS_s, srS_d0, srS_d1, srV_l0, srV_l1, srV_t, srV_c, srV_s, srV_d, w_rng1, w_en, on1_c, w_enV, w_enS, enS_t, enS_s, enS_l0, enS_l1, w_prt, prF_i, w_sl, w_sm, sF_s, w_lm, w_lmP, lF_l, w_lmO, lmS_l, w_par, par2_c, w_tupG, tpF_t1, tpF_t2, tpF_t3, tpF_t4, tpF_l2, tpF_l3, w_setsN, w_setsC, w_prsN, w_prsC, w_dct, w_get, dF_d, w_for, tn_nx, tn_ct, tn_bk, tn_rt, w_lc, w_step, atS_s, atT_s, atO_s, Bt_t, Bt_f, Gd_t, z0_0, z0_1, z0_2, z0_s, le1_0, le1_1, fz_0, fz_all, fz_l1, leC_k0, leC_k1, leC_k2, leC_k3, leC_k4, leC_k5, leC_k6, leC_k7, leC_k8, leC_k9, leC_k10, leC_k11, leC_k12, leC_k13, leC_k14, leC_k15, leC_k16, pin_s, pin_n, neq_t, wipe_0, wipe_c, back_0, back_c, unp_0, unp_c, List.getElem?_cons_zero, List.getElem?_cons_succ, List.set_cons_zero, List.set_cons_succ, Bool.not_true, Bool.not_false, Bool.and_true, Bool.true_and, Bool.and_false, List.map_cons, List.map_nil, List.length_cons, List.length_nil, List.take_succ_cons, List.take_zero, List.cons_append, List.nil_append, Option.map_some, List.getD_cons_zero, List.getD_cons_succ, Option.getD_some, Option.getD_none, Nat.reduceAdd, Nat.zero_add, Nat.reduceSub, List.replicate, Nat.add_zero, if_true, if_false, ite_true, ite_false, Bool.false_eq_true, reduceIte, add_i, sub_i, lt_i, gt_i, ge_i, le_i, int_b, int_i, tru_b, tru_i, tru_n, tru_l, tru_t, len_l, len_t, len_r, tup_l, tup_t, is_n, pop0, decide_true, decide_false, Nat.reduceLeDiff, $ls,*])

def menuL : List Str := ["put", "doubt", "strike", "back", "change", "one", "map", "words", "parted", "line", "rings", "thin", "fate", "asks", "habit", "apart", "near", "paper", "ok", "no", "none", "self", "may", "not", "has", "any"]
def MnQ (S : List Inst) (d : D) (k : Nat) (outs : List (Option Slot)) (S' : List Inst) : Prop := d = .lst (menuL.map D.str) ∧ k = 1 ∧ outs = [] ∧ S = S'
theorem cap_13 : 13 ≤ cap := by decide
theorem cap_24 : 24 ≤ cap := by decide
theorem cap_26 : 26 ≤ cap := by decide
theorem menu_s {S : List Inst} : FOk fn__law_menu [] S (MnQ S) := by
  unfold fn__law_menu m__law_menu
  rw [f_fn]
  simp_arith [add_l2, cap_13, cap_24, cap_26]
  exact ⟨rfl, rfl, rfl, rfl⟩
theorem menu_gw : ∀ d ∈ menuL.map D.str, ∃ l, d = dt l ∧ gw l := by
  intro d hd
  obtain ⟨x, hx, rfl⟩ := List.mem_map.mp hd
  have : menuL.all gwb = true := by decide +kernel
  exact gw_b (List.all_eq_true.mp this x hx)
def WdQ (S : List Inst) (d : D) (k : Nat) (outs : List (Option Slot)) (S' : List Inst) : Prop := ∃ (l : List Nat) (a b c : Int), gw l ∧ d = dt l ∧ k = 0 ∧ outs = [some ⟨prs a b c, 1, true⟩] ∧ S = S'
theorem word_s {a b c : Int} {S : List Inst} : FOk fn__law_word [⟨prs a b c, 1, true⟩] S (WdQ S) := by
  unfold fn__law_word m__law_word
  rw [f_fn]
  simp_arith []
  refine (pick_s p4 q4).mono ?_
  rintro _ _ _ _ ⟨v1, a, b, c, rfl, h1, rfl, rfl, rfl⟩
  simp_arith []
  refine (pick_s p3 q3).mono ?_
  rintro _ _ _ _ ⟨v2, a, b, c, rfl, h2, rfl, rfl, rfl⟩
  obtain ⟨wd, hw, wd, rfl, w1, w2⟩ := ix_P (ds := [.int 3, .int 5, .int 26]) (v := v2) (fun d => ∃ w : Nat, d = .int (w : Int) ∧ 0 < w ∧ w ≤ 26) h2 (by
    intro d hd
    simp only [List.mem_cons, List.not_mem_nil, or_false] at hd
    rcases hd with rfl | rfl | rfl
    · exact ⟨3, rfl, by decide, by decide⟩
    · exact ⟨5, rfl, by decide, by decide⟩
    · exact ⟨26, rfl, by decide, by decide⟩)
  simp_arith [hw, eq_i]
  refine Bt_by (fun _ => ?_) (fun _ => ?_)
  · simp_arith []
    refine menu_s.mono ?_
    rintro _ _ _ _ ⟨rfl, rfl, rfl, rfl⟩
    simp_arith []
    refine (pick_s p26 q26).mono ?_
    rintro _ _ _ _ ⟨v3, a, b, c, rfl, h3, rfl, rfl, rfl⟩
    obtain ⟨d, hd, l, rfl, hl⟩ := ix_P (ds := menuL.map D.str) (v := v3) (fun d => ∃ l, d = dt l ∧ gw l) h3 menu_gw
    simp_arith [hd]
    exact ⟨l, a, b, c, hl, rfl, rfl, rfl, rfl⟩
  · simp_arith []
    refine (pick_s p8 q8).mono ?_
    rintro _ _ _ _ ⟨v3, a, b, c, rfl, h3, rfl, rfl, rfl⟩
    simp_arith []
    refine (pick_s p5 q5).mono ?_
    rintro _ _ _ _ ⟨v4, a, b, c, rfl, h4, rfl, rfl, rfl⟩
    obtain ⟨d, hd, n, rfl, n1, n2⟩ := ix_P (ds := [.int 1, .int 2, .int 3, .int 4, .int (1 + (v3 : Int))]) (v := v4) (fun d => ∃ w : Nat, d = .int (w : Int) ∧ 0 < w ∧ w ≤ 8) h4 (by
      intro d hd
      simp only [List.mem_cons, List.not_mem_nil, or_false] at hd
      rcases hd with rfl | rfl | rfl | rfl | rfl
      · exact ⟨1, rfl, by decide, by decide⟩
      · exact ⟨2, rfl, by decide, by decide⟩
      · exact ⟨3, rfl, by decide, by decide⟩
      · exact ⟨4, rfl, by decide, by decide⟩
      · exact ⟨1 + v3, by rw [Int.natCast_add]; rfl, by omega, by omega⟩)
    simp_arith [hd, r1_of (show n < 1000000000 by omega)]
    refine wp_lc (fun rest acc s => ∃ (ls : List Nat) (a b c : Int), acc = ls.map d1 ∧ ls.length + rest.length = n ∧ (∀ c ∈ ls, 97 ≤ c ∧ c ≤ 122) ∧ s = ⟨[some ⟨prs a b c, 1, true⟩, some ⟨.int (v1 : Int), 0, false⟩, some ⟨.int (wd : Int), 0, false⟩, some ⟨.int (n : Int), 0, false⟩, none], S⟩) ?_ rfl ?_ (fun d rest acc s hI => ?_) (fun acc s hI => ?_)
    · unfold rngD
      rw [List.length_map, List.length_range]
      exact Nat.le_trans n2 (by decide)
    · exact ⟨[], a, b, c, rfl, by unfold rngD; rw [List.length_map, List.length_range]; exact Nat.zero_add n, by simp, rfl⟩
    · obtain ⟨ls, a, b, c, rfl, hl, hc, rfl⟩ := hI
      simp_arith []
      refine (pick_s (by omega) (by omega)).mono ?_
      rintro _ _ _ _ ⟨v5, a, b, c, rfl, h5, rfl, rfl, rfl⟩
      have hx : ixF (.str "abcdefghijklmnopqrstuvwxyz") (.int (v5 : Int)) = some (d1 (97 + v5), 0) := by
        rw [str_abc]
        refine ix_s (by decide) ?_
        have : v5 < 26 := by omega
        exact (show ∀ k, k < 26 → abc[k]? = some (97 + k) by decide) v5 this
      simp_arith [hx]
      refine ⟨ls ++ [97 + v5], a, b, c, by rw [List.map_append]; rfl, ?_, ?_, rfl⟩
      · rw [List.length_append]
        simp only [List.length_cons, List.length_nil] at hl ⊢
        omega
      · intro z hz
        rcases List.mem_append.mp hz with hz | hz
        · exact hc z hz
        · rw [List.mem_singleton.mp hz]
          omega
    · obtain ⟨ls, a, b, c, rfl, hl, hc, rfl⟩ := hI
      have hj : joinF "" [.lst (ls.map d1)] = some (dt ls, 0) := by
        have e := join0 (ls := ls.map fun c => [c]) (by
          rw [List.map_map]
          have : (ls.map (List.length ∘ fun c => [c])).sum = ls.length := by
            clear hl hc
            induction ls with
            | nil => rfl
            | cons x ls ih => rw [List.map_cons, List.sum_cons, ih, List.length_cons]; simp only [Function.comp]; rw [List.length_singleton]; omega
          rw [this]
          simp only [List.length_nil] at hl
          omega)
        rw [List.map_map] at e
        have e2 : (ls.map fun c => [c]).flatten = ls := by
          clear hl hc e
          induction ls with
          | nil => rfl
          | cons x ls ih => rw [List.map_cons, List.flatten_cons, ih]; rfl
        rw [e2] at e
        exact e
      simp_arith [hj]
      exact ⟨ls, a, b, c, ⟨by simp only [List.length_nil] at hl; omega, by simp only [List.length_nil] at hl; omega, hc⟩, rfl, rfl, rfl, rfl⟩
end Mi

set_option Elab.async false
set_option linter.all false
set_option maxRecDepth 100000
set_option maxHeartbeats 1000000
namespace Mi
open PySem L2
local macro_rules | `(tactic| simp_arith [$ls,*]) => `(tactic| simp -implicitDefEqProofs only [w_ins, obF_o, clB_1, w_att, w_meth, w_methK, w_mk, w_mkI, w_mkK, w_mkKI, noneO_n, w_setI, w_fld, ap_get, ap_set, few_0, few_1, few_2, few_3, putI_0, lck_v1, lck_v0, w_ds, w_dsO, w_aug, w_augS, par3_c, w_par3, lenG_l, lenG_t, lenG_r, lenG_d, lenG_s, minG_i, maxG_i, w_frz, w_bnd, w_ret, w_stuck, w_opt, w_vr, w_cn, w_lookV, w_lookS, w_flatV, w_flatS, w_ownV, w_ownS, w_movV, w_movS, w_ifS, w_ifV, w_andT, w_orT, w_notT, w_truM, w_andV, w_orV, w_notV, Sq_nx, Sq_bk, Sq_ct, Sq_rt, w_seq, w_bin, w_uno, w_cmpV, w_cmpT, w_chV, w_chT, w_st, w_rt, w_exM, w_set, w_evN, w_evC, w_flats0, w_flats, w_fzo, w_fzos0, w_fzos, w_blt, w_tup, w_lst, w_stO, w_idx, gt_0, gt_V, gt_S, w_call, w_callO, fill_0, fill_n, fill_s, dfl_0, dfl_c, w_callV, w_callK, fin_rt, fin_nx, pins_0, pins_n, pins_t, w_src, w_srS, srS_l0, srS_l1, srS_t, srS_c, srS_s, srS_d0, srS_d1, srV_l0, srV_l1, srV_t, srV_c, srV_s, srV_d, w_rng1, w_en, on1_c, w_enV, w_enS, enS_t, enS_s, enS_l0, enS_l1, w_prt, prF_i, w_sl, w_sm, sF_s, w_lm, w_lmP, lF_l, w_lmO, lmS_l, w_par, par2_c, w_tupG, tpF_t1, tpF_t2, tpF_t3, tpF_t4, tpF_l2, tpF_l3, w_setsN, w_setsC, w_prsN, w_prsC, w_dct, w_get, dF_d, w_for, tn_nx, tn_ct, tn_bk, tn_rt, w_lc, w_step, atS_s, atT_s, atO_s, Bt_t, Bt_f, Gd_t, z0_0, z0_1, z0_2, z0_s, le1_0, le1_1, fz_0, fz_all, fz_l1, leC_k0, leC_k1, leC_k2, leC_k3, leC_k4, leC_k5, leC_k6, leC_k7, leC_k8, leC_k9, leC_k10, leC_k11, leC_k12, leC_k13, leC_k14, leC_k15, leC_k16, pin_s, pin_n, neq_t, wipe_0, wipe_c, back_0, back_c, unp_0, unp_c, List.getElem?_cons_zero, List.getElem?_cons_succ, List.set_cons_zero, List.set_cons_succ, Bool.not_true, Bool.not_false, Bool.and_true, Bool.true_and, Bool.and_false, List.map_cons, List.map_nil, List.length_cons, List.length_nil, List.take_succ_cons, List.take_zero, List.cons_append, List.nil_append, Option.map_some, List.getD_cons_zero, List.getD_cons_succ, Option.getD_some, Option.getD_none, Nat.reduceAdd, Nat.zero_add, Nat.reduceSub, List.replicate, Nat.add_zero, if_true, if_false, ite_true, ite_false, Bool.false_eq_true, reduceIte, add_i, sub_i, lt_i, gt_i, ge_i, le_i, int_b, int_i, tru_b, tru_i, tru_n, tru_l, tru_t, len_l, len_t, len_r, tup_l, tup_t, is_n, pop0, decide_true, decide_false, Nat.reduceLeDiff, $ls,*])

/-! ### names not used yet -/
theorem cut_hiA {a : List Nat} (h : a.length ≤ cap) (i : Nat) : slF (dt a) none (some (i : Int)) = some (dt (a.take i), 0) := by
  rw [slice_s h, HT.sIx_nat, HT.sIx_none, List.drop_zero, Nat.sub_zero]
  congr 3
  rw [List.take_eq_take_iff]
  omega
theorem wp_lcBxf {X : Type} {i : Nat} {r : List (Option Slot)} {S : List Inst} {f : D → Nat → M Unit} {c : M Bool} {e : M Op} {vs : List Nat} {xs : List X} {h : X → D} {p : Bool} {w : Nat → D → D} {Q : Op → Sx → Prop} (g : X → Option D) (hr : r[i]? = some (some ⟨.lst (xs.map h), 1, p⟩)) (hv : i ∉ vs) (hl : xs.length ≤ cap) (ho : okOwn r vs = true)
    (hi : (wipeR r vs)[i]? = some (some ⟨.lst (xs.map h), 1, p⟩))
    (hs : ∀ n x, xs[n]? = some x → Wp (stepM f c e (w n (h x))) ⟨wipeR r vs, S⟩ fun y s1 => StQ vs r S (g x) y s1) (he : Q (.val (.lst (xs.filterMap g)) 1) ⟨backR r (wipeR r vs) vs, S⟩) : Wp (lcO (.bor i w) f c e vs) ⟨r, S⟩ Q := by
  refine wp_lcB hr hv (fun n acc s => s = ⟨wipeR r vs, S⟩ ∧ acc = (xs.take n).filterMap g) (by rw [List.length_map]; exact hl) ho (fun n acc s hI => ?_) ⟨rfl, by simp⟩ (fun n d acc s hd hI => ?_) (fun acc s hI => ?_)
  · rw [hI.1]
    exact hi
  · obtain ⟨rfl, rfl⟩ := hI
    rw [List.getElem?_map] at hd
    obtain ⟨x, hx, rfl⟩ := Option.map_eq_some_iff.mp hd
    refine (hs n x hx).mono fun y s1 hy => ?_
    obtain ⟨e1, h2, h3⟩ := hy
    refine ⟨by rw [h2, h3], ?_⟩
    rw [List.take_succ, hx, List.filterMap_append, ← e1]
    cases hg : g x <;> simp [hg]
  · obtain ⟨rfl, rfl⟩ := hI
    rw [List.length_map, List.take_length]
    exact he
theorem gwp {l : List Nat} (h : gw l) : ∀ c ∈ l, c < 1114112 := fun c hc => by
  have := (h.2.2 c hc).2
  omega
theorem pl_dts {us : List (List Nat)} (h : ∀ u ∈ us, gw u) : pl 64 (.lst (us.map dt)) = true := pl_lst (n := 63) fun d hd => by
  obtain ⟨u, hu, rfl⟩ := List.mem_map.mp hd
  exact pl_dt (gwp (h u hu))
theorem in_dts {x : List Nat} {us : List (List Nat)} (hx : gw x) (h : ∀ u ∈ us, gw u) : inB (dt x) (.lst (us.map dt)) = some (decide (x ∈ us)) := by
  rw [in_pl (pl_dt (gwp hx)) (pl_dts h)]
  congr 1
  rw [Bool.eq_iff_iff, List.any_map, List.any_eq_true, decide_eq_true_iff]
  constructor
  · rintro ⟨u, hu, e⟩
    have e' := dt_inj (deq_iff.mp e)
    rwa [← e']
  · intro hm
    exact ⟨x, hm, deq_pos rfl⟩
theorem nin_dts {x : List Nat} {us : List (List Nat)} (hx : gw x) (h : ∀ u ∈ us, gw u) : ninB (dt x) (.lst (us.map dt)) = some (!decide (x ∈ us)) := by
  unfold ninB
  rw [in_dts hx h]
  rfl
theorem nd_len {α : Type} [DecidableEq α] : ∀ {l m : List α}, l.Nodup → (∀ x ∈ l, x ∈ m) → l.length ≤ m.length
  | [], _, _, _ => Nat.zero_le _
  | a :: l, m, hn, hs => by
    have hn' := List.nodup_cons.mp hn
    have ih := nd_len (l := l) (m := m.erase a) hn'.2 fun x hx => (List.mem_erase_of_ne (fun e => hn'.1 (by rw [← e]; exact hx))).mpr (hs x (List.mem_cons_of_mem _ hx))
    have hm := hs a (List.mem_cons_self ..)
    rw [List.length_erase_of_mem hm] at ih
    have := List.length_pos_of_mem hm
    rw [List.length_cons]
    omega
def sp1 (l : List Nat) : List (List Nat) := abc.map fun c => l.take 7 ++ [c]
def sp2 (l : List Nat) : List (List Nat) := (abc.take 13).map fun c => l.take 6 ++ [c] ++ [122]
theorem nd_map {α β : Type} {f : α → β} (hf : ∀ a b, f a = f b → a = b) : ∀ {l : List α}, l.Nodup → (l.map f).Nodup
  | [], _ => List.nodup_nil
  | a :: l, h => by
    have h' := List.nodup_cons.mp h
    refine List.nodup_cons.mpr ⟨fun m => ?_, nd_map hf h'.2⟩
    obtain ⟨b, hb, e⟩ := List.mem_map.mp m
    rw [hf _ _ e] at hb
    exact h'.1 hb
theorem spare_ok {l : List Nat} {us : List (List Nat)} (h : us.length ≤ 35) : ∃ x ∈ sp1 l ++ sp2 l, x ∉ us := by
  by_cases hall : ∀ x ∈ sp1 l ++ sp2 l, x ∈ us
  · exfalso
    have n1 : (sp1 l).Nodup := nd_map (fun a b e => by simpa using e) (by decide)
    have n2 : (sp2 l).Nodup := nd_map (fun a b e => by simpa using e) (by decide)
    have n3 : (sp1 l ++ (sp2 l).filter fun x => x ≠ l.take 7 ++ [122]).Nodup := by
      refine List.nodup_append.mpr ⟨n1, n2.filter _, fun x hx y hy e => ?_⟩
      subst e
      obtain ⟨hy1, hy2⟩ := List.mem_filter.mp hy
      obtain ⟨c, hc, rfl⟩ := List.mem_map.mp hx
      obtain ⟨c', hc', e⟩ := List.mem_map.mp hy1
      have e3 : ([122] : List Nat) = [c] := (List.append_inj' e rfl).2
      rw [← e3] at hy2
      simp at hy2
    have l1 := nd_len n3 fun x hx => by
      rcases List.mem_append.mp hx with hx | hx
      · exact hall x (List.mem_append_left _ hx)
      · exact hall x (List.mem_append_right _ (List.mem_filter.mp hx).1)
    have l2 := nd_len (m := (sp2 l).filter (fun x => x ≠ l.take 7 ++ [122]) ++ [l.take 7 ++ [122]]) n2 fun x hx => by
      by_cases e : x = l.take 7 ++ [122]
      · exact List.mem_append_right _ (by rw [e]; exact List.mem_cons_self ..)
      · exact List.mem_append_left _ (List.mem_filter.mpr ⟨hx, by simpa using e⟩)
    rw [List.length_append] at l1 l2
    have e1 : (sp1 l).length = 26 := by unfold sp1; rw [List.length_map]; rfl
    have e2 : (sp2 l).length = 13 := by unfold sp2; rw [List.length_map]; rfl
    rw [List.length_singleton] at l2
    omega
  · simp only [Classical.not_forall] at hall
    obtain ⟨x, hx, hn⟩ := hall
    exact ⟨x, hx, hn⟩
theorem abc_r {c : Nat} (h : c ∈ abc) : 97 ≤ c ∧ c ≤ 122 := (show ∀ c ∈ abc, 97 ≤ c ∧ c ≤ 122 by decide) c h
theorem sp_gw {l : List Nat} (h : gw l) : ∀ x ∈ sp1 l ++ sp2 l, gw x := by
  intro x hx
  rcases List.mem_append.mp hx with hx | hx
  · obtain ⟨c, hc, rfl⟩ := List.mem_map.mp hx
    refine ⟨by simp, by simp; omega, fun z hz => ?_⟩
    rcases List.mem_append.mp hz with hz | hz
    · exact h.2.2 z (List.mem_of_mem_take hz)
    · rw [List.mem_singleton.mp hz]
      exact abc_r hc
  · obtain ⟨c, hc, rfl⟩ := List.mem_map.mp hx
    refine ⟨by simp, by simp; omega, fun z hz => ?_⟩
    rcases List.mem_append.mp hz with hz | hz
    · rcases List.mem_append.mp hz with hz | hz
      · exact h.2.2 z (List.mem_of_mem_take hz)
      · rw [List.mem_singleton.mp hz]
        exact abc_r (List.mem_of_mem_take hc)
    · rw [List.mem_singleton.mp hz]
      omega
theorem str_z : ("z" : Str) = tx [122] := by decide
theorem sgns_abc : sgns "abcdefghijklmnopqrstuvwxyz" = abc.map d1 := by rw [str_abc]; rfl
theorem sgns_13 : sgns "abcdefghijklm" = (abc.take 13).map d1 := by
  rw [show ("abcdefghijklm" : Str) = tx (abc.take 13) by decide]
  rfl
theorem cap_26' : (abc.map d1).length ≤ cap := by decide
theorem ix0 (d : D) (ds : List D) : ixF (.lst (d :: ds)) (.int 0) = some (d, 0) := ix_l (i := 0) rfl
def FrQ (us : List (List Nat)) (S : List Inst) (d : D) (k : Nat) (outs : List (Option Slot)) (S' : List Inst) : Prop := ∃ (l : List Nat) (a b c : Int), gw l ∧ l ∉ us ∧ d = dt l ∧ k = 0 ∧ outs = [some ⟨prs a b c, 1, true⟩, some ⟨.lst (us.map dt), 1, true⟩] ∧ S = S'
theorem fresh_s {a b c : Int} {S : List Inst} {us : List (List Nat)} (h35 : us.length ≤ 35) (hu : ∀ u ∈ us, gw u) : FOk fn__law_fresh [⟨prs a b c, 1, true⟩, ⟨.lst (us.map dt), 1, true⟩] S (FrQ us S) := by
  unfold fn__law_fresh m__law_fresh
  rw [f_fn]
  simp_arith []
  refine word_s.mono ?_
  rintro _ _ _ _ ⟨l, a, b, c, hl, rfl, rfl, rfl, rfl⟩
  simp_arith [nin_dts hl hu]
  refine Bt_by (fun hn => ?_) (fun hn => ?_)
  · simp_arith []
    refine ⟨l, a, b, c, hl, ?_, rfl, rfl, rfl, rfl⟩
    simpa using hn
  · simp_arith [sgns_abc]
    have hlc := gwc hl
    have c7 : slF (dt l) none (some 7) = some (dt (l.take 7), 0) := cut_hiA hlc 7
    have c6 : slF (dt l) none (some 6) = some (dt (l.take 6), 0) := cut_hiA hlc 6
    have t7 : (l.take 7).length ≤ 7 := List.length_take_le ..
    have t6 : (l.take 6).length ≤ 6 := List.length_take_le ..
    refine wp_lcx (X := Nat) (xs := abc) (h := d1) (fun c => dt (l.take 7 ++ [c])) (by decide) rfl (fun x hx => ?_) ?_
    · have ha : addD (dt (l.take 7)) (d1 x) = some (dt (l.take 7 ++ [x]), 0) := add_s (le8c (by rw [List.length_singleton]; omega))
      simp_arith [c7, ha]
      exact ⟨rfl, rfl, rfl⟩
    · simp_arith [sgns_13]
      refine wp_lcx (X := Nat) (xs := abc.take 13) (h := d1) (fun c => dt (l.take 6 ++ [c] ++ [122])) (by decide) rfl (fun x hx => ?_) ?_
      · have ha : addD (dt (l.take 6)) (d1 x) = some (dt (l.take 6 ++ [x]), 0) := add_s (le8c (by rw [List.length_singleton]; omega))
        have hb : addD (dt (l.take 6 ++ [x])) (.str "z") = some (dt (l.take 6 ++ [x] ++ [122]), 0) := by
          rw [str_z]
          exact add_s (b := [122]) (le8c (by rw [List.length_append, List.length_singleton, List.length_singleton]; omega))
        simp_arith [c6, ha, hb]
        exact ⟨rfl, rfl, rfl⟩
      · have hadd : addD (.lst (abc.map fun c => dt (l.take 7 ++ [c]))) (.lst ((abc.take 13).map fun c => dt (l.take 6 ++ [c] ++ [122]))) = some (.lst ((sp1 l ++ sp2 l).map dt), 1) := by
          rw [add_l (by rw [List.length_map, List.length_map]; decide)]
          rw [List.map_append]
          unfold sp1 sp2
          rw [List.map_map, List.map_map]
          rfl
        simp_arith [hadd]
        have hg := sp_gw hl
        refine wp_lcBxf (X := List Nat) (xs := sp1 l ++ sp2 l) (h := dt) (fun x => if x ∈ us then none else some (dt x)) rfl (by decide) ?_ rfl rfl (fun n x hx => ?_) ?_
        · rw [List.length_append]
          unfold sp1 sp2
          rw [List.length_map, List.length_map]
          decide
        · simp_arith [nin_dts (hg x (List.mem_of_getElem? hx)) hu]
          by_cases hm : x ∈ us
          · simp_arith [decide_eq_true hm]
            exact ⟨by simp [hm], rfl, rfl⟩
          · simp_arith [decide_eq_false hm]
            exact ⟨by simp [hm], rfl, rfl⟩
        · obtain ⟨x, hx, hxu⟩ := spare_ok (l := l) h35
          have hmem : dt x ∈ (sp1 l ++ sp2 l).filterMap fun x => if x ∈ us then none else some (dt x) := List.mem_filterMap.mpr ⟨x, hx, by simp [hxu]⟩
          generalize hz : ((sp1 l ++ sp2 l).filterMap fun x => if x ∈ us then none else some (dt x)) = zs at hmem
          cases zs with
          | nil => cases hmem
          | cons z zs =>
            have hzm : z ∈ (sp1 l ++ sp2 l).filterMap fun x => if x ∈ us then none else some (dt x) := by rw [hz]; exact List.mem_cons_self ..
            obtain ⟨y, hy, e⟩ := List.mem_filterMap.mp hzm
            by_cases hm : y ∈ us
            · simp [hm] at e
            · simp [hm] at e
              subst e
              simp_arith [ix0]
              exact ⟨y, a, b, c, hg y hy, hm, rfl, rfl, rfl, rfl⟩
end Mi

set_option Elab.async false
set_option linter.all false
set_option maxRecDepth 100000
set_option maxHeartbeats 1000000
namespace Mi
open PySem L2
local macro_rules | `(tactic| simp_arith [$ls,*]) => `(tactic| simp -implicitDefEqProofs only [w_ins, obF_o, clB_1, w_att, w_meth, w_methK, w_mk, w_mkI, w_mkK, w_mkKI, noneO_n, w_setI, w_fld, ap_get, ap_set, few_0, few_1, few_2, few_3, putI_0, lck_v1, lck_v0, w_ds, w_dsO, w_aug, w_augS, par3_c, w_par3, lenG_l, lenG_t, lenG_r, lenG_d, lenG_s, minG_i, maxG_i, w_frz, w_bnd, w_ret, w_stuck, w_opt, w_vr, w_cn, w_lookV, w_lookS, w_flatV, w_flatS, w_ownV, w_ownS, w_movV, w_movS, w_ifS, w_ifV, w_andT, w_orT, w_notT, w_truM, w_andV, w_orV, w_notV, Sq_nx, Sq_bk, Sq_ct, Sq_rt, w_seq, w_bin, w_uno, w_cmpV, w_cmpT, w_chV, w_chT, w_st, w_rt, w_exM, w_set, w_evN, w_evC, w_flats0, w_flats, w_fzo, w_fzos0, w_fzos, w_blt, w_tup, w_lst, w_stO, w_idx, gt_0, gt_V, gt_S, w_call, w_callO, fill_0, fill_n, fill_s, dfl_0, dfl_c, w_callV, w_callK, fin_rt, fin_nx, pins_0, pins_n, pins_t, w_src, w_srS, srS_l0, srS_l1, srS_t, srS_c, srS_s, srS_d0, srS_d1, srV_l0, srV_l1, srV_t, srV_c, srV_s, srV_d, w_rng1, w_en, on1_c, w_enV, w_enS, enS_t, enS_s, enS_l0, enS_l1, w_prt, prF_i, w_sl, w_sm, sF_s, w_lm, w_lmP, lF_l, w_lmO, lmS_l, w_par, par2_c, w_tupG, tpF_t1, tpF_t2, tpF_t3, tpF_t4, tpF_l2, tpF_l3, w_setsN, w_setsC, w_prsN, w_prsC, w_dct, w_get, dF_d, w_for, tn_nx, tn_ct, tn_bk, tn_rt, w_lc, w_step, atS_s, atT_s, atO_s, Bt_t, Bt_f, Gd_t, z0_0, z0_1, z0_2, z0_s, le1_0, le1_1, fz_0, fz_all, fz_l1, leC_k0, leC_k1, leC_k2, leC_k3, leC_k4, leC_k5, leC_k6, leC_k7, leC_k8, leC_k9, leC_k10, leC_k11, leC_k12, leC_k13, leC_k14, leC_k15, leC_k16, pin_s, pin_n, neq_t, wipe_0, wipe_c, back_0, back_c, unp_0, unp_c, List.getElem?_cons_zero, List.getElem?_cons_succ, List.set_cons_zero, List.set_cons_succ, Bool.not_true, Bool.not_false, Bool.and_true, Bool.true_and, Bool.and_false, List.map_cons, List.map_nil, List.length_cons, List.length_nil, List.take_succ_cons, List.take_zero, List.cons_append, List.nil_append, Option.map_some, List.getD_cons_zero, List.getD_cons_succ, Option.getD_some, Option.getD_none, Nat.reduceAdd, Nat.zero_add, Nat.reduceSub, List.replicate, Nat.add_zero, if_true, if_false, ite_true, ite_false, Bool.false_eq_true, reduceIte, add_i, sub_i, lt_i, gt_i, ge_i, le_i, int_b, int_i, tru_b, tru_i, tru_n, tru_l, tru_t, len_l, len_t, len_r, tup_l, tup_t, is_n, pop0, decide_true, decide_false, Nat.reduceLeDiff, $ls,*])

/-! ### a land drawn -/
abbrev Cell := Option (List Nat)
def cD (c : Cell) : D := match c with
  | none => .non
  | some l => dt l
def rwD (r : List Cell) : D := .tup (r.map cD)
def lndD (g : List (List Cell)) : D := .tup (g.map rwD)
def tws (p : List Cell) : List (List Nat) := p.filterMap id
theorem tws_app (p q : List Cell) : tws (p ++ q) = tws p ++ tws q := List.filterMap_append
theorem tws_n (p : List Cell) : tws (p ++ [none]) = tws p := by rw [tws_app]; exact List.append_nil _
theorem tws_s (p : List Cell) (l : List Nat) : tws (p ++ [some l]) = tws p ++ [l] := by rw [tws_app]; rfl
theorem tws_len (p : List Cell) : (tws p).length ≤ p.length := List.length_filterMap_le ..
/-- the rows of a land -/
structure Gl (g : List (List Cell)) : Prop where
  h1 : 1 ≤ g.length
  h6 : g.length ≤ 6
  w : ∃ w, 1 ≤ w ∧ w ≤ 6 ∧ ∀ r ∈ g, r.length = w
  some_ : tws g.flatten ≠ []
  nd : (tws g.flatten).Nodup
  gd : ∀ l ∈ tws g.flatten, gw l
theorem flat_len {α : Type} {w : Nat} : ∀ {g : List (List α)}, (∀ r ∈ g, r.length = w) → g.flatten.length = g.length * w
  | [], _ => by simp
  | r :: g, h => by
    rw [List.flatten_cons, List.length_append, List.length_cons, flat_len (fun r hr => h r (List.mem_cons_of_mem _ hr)), h r (List.mem_cons_self ..), Nat.succ_mul]
    omega
theorem rdc {n k x : Nat} {rest : List Nat} (h : x :: rest = (List.range n).drop k) : x = k ∧ rest = (List.range n).drop (k + 1) ∧ k < n := by
  have hk : k < n := by
    have := congrArg List.length h
    rw [List.length_cons, List.length_drop, List.length_range] at this
    omega
  have e : (List.range n).drop k = k :: (List.range n).drop (k + 1) := by
    rw [List.drop_eq_getElem_cons (by rw [List.length_range]; exact hk), List.getElem_range]
  rw [e] at h
  injection h with h1 h2
  exact ⟨h1, h2, hk⟩
theorem rd0 (n : Nat) : List.range n = (List.range n).drop 0 := rfl
theorem rdn {n k : Nat} (h : [] = (List.range n).drop k) (hk : k ≤ n) : k = n := by
  have := congrArg List.length h
  rw [List.length_nil, List.length_drop, List.length_range] at this
  omega
theorem ne_l0 {us : List (List Nat)} (h : ∀ u ∈ us, gw u) : neB (.lst (us.map dt)) (.lst []) = some (!us.isEmpty) := by
  rw [ne_pl (pl_dts h) rfl]
  congr 2
  rw [Bool.eq_iff_iff, deq_iff]
  cases us with
  | nil => simp
  | cons u us => simp
theorem p6 : (0 : Int) < 6 := by decide
theorem q6 : (6 : Int) < 1073741824 := by decide
/-- whether a lake is drawn -/
def LkQ (us : List (List Nat)) (cond : Prop) (st : Int → Int → Int → Sx) (o : Op) (s1 : Sx) : Prop := ∃ (lk : Bool) (a b c : Int), o = .val (.bl lk) 0 ∧ s1 = st a b c ∧ (lk = true → us ≠ [] ∨ cond)
theorem lake_ok {a b c : Int} {S : List Inst} {us : List (List Nat)} {g : List (List Cell)} {p : List Cell} {most : Int} {h w r q : Nat} {o9 o10 : Option Slot} (hu : ∀ u ∈ us, gw u) :
    Wp (andV (cmpV eqB (callM fn__law_pick 2 [] (evC (vr 0) (evC (cn (.int 6)) evN))) (cn (.int 5))) (orV (cmpV neB (vr 4) (lstM evN)) (cmpV ltB (bin addD (bin addD (vr 6) (vr 8)) (cn (.int 2))) (bin addD (vr 2) (vr 3)))))
      ⟨[some ⟨prs a b c, 1, true⟩, some ⟨.int most, 0, false⟩, some ⟨.int (h : Int), 0, false⟩, some ⟨.int (w : Int), 0, false⟩, some ⟨.lst (us.map dt), 1, false⟩, some ⟨.lst (g.map rwD), 1, false⟩, some ⟨.int (r : Int), 0, false⟩, some ⟨.lst (p.map cD), 1, false⟩, some ⟨.int (q : Int), 0, false⟩, o9, o10], S⟩
      (LkQ us (r + q + 2 < h + w) fun a b c => ⟨[some ⟨prs a b c, 1, true⟩, some ⟨.int most, 0, false⟩, some ⟨.int (h : Int), 0, false⟩, some ⟨.int (w : Int), 0, false⟩, some ⟨.lst (us.map dt), 1, false⟩, some ⟨.lst (g.map rwD), 1, false⟩, some ⟨.int (r : Int), 0, false⟩, some ⟨.lst (p.map cD), 1, false⟩, some ⟨.int (q : Int), 0, false⟩, o9, o10], S⟩) := by
  simp_arith []
  refine (pick_s p6 q6).mono ?_
  rintro _ _ _ _ ⟨v1, a, b, c, rfl, h1, rfl, rfl, rfl⟩
  simp_arith [eq_i]
  refine Bt_by (fun hk => ?_) (fun hk => ?_)
  · simp_arith [ne_l0 hu]
    refine Bt_by (fun hk2 => ?_) (fun hk2 => ?_)
    · refine ⟨_, a, b, c, rfl, rfl, fun _ => .inl ?_⟩
      intro e
      rw [e] at hk2
      cases hk2
    · simp_arith []
      refine ⟨_, a, b, c, rfl, rfl, fun hd => .inr ?_⟩
      have := of_decide_eq_true hd
      omega
  · refine ⟨_, a, b, c, rfl, rfl, fun hd => ?_⟩
    rw [hd] at hk
    cases hk
def LdQ (most : Int) (S : List Inst) (d : D) (k : Nat) (outs : List (Option Slot)) (S' : List Inst) : Prop := ∃ (g : List (List Cell)) (a b c : Int), Gl g ∧ d = lndD g ∧ k = 0 ∧ outs = [some ⟨prs a b c, 1, true⟩, some ⟨.int most, 0, false⟩] ∧ S = S'
theorem dt_c (l : List Nat) : dt l = cD (some l) := rfl
theorem non_c : D.non = cD none := rfl
theorem land_s {a b c most : Int} {S : List Inst} (m1 : 1 ≤ most) (m6 : most ≤ 6) : FOk fn__law_land [⟨prs a b c, 1, true⟩, ⟨.int most, 0, false⟩] S (LdQ most S) := by
  unfold fn__law_land m__law_land
  rw [f_fn]
  simp_arith []
  refine (pick_s (by omega) (by omega)).mono ?_
  rintro _ _ _ _ ⟨v1, a, b, c, rfl, h1, rfl, rfl, rfl⟩
  obtain ⟨h, eh, hh1, hh2⟩ : ∃ h : Nat, (1 : Int) + (v1 : Int) = (h : Int) ∧ 1 ≤ h ∧ h ≤ 6 := ⟨1 + v1, by omega, by omega, by omega⟩
  simp_arith [eh]
  refine (pick_s (by omega) (by omega)).mono ?_
  rintro _ _ _ _ ⟨v2, a, b, c, rfl, h2, rfl, rfl, rfl⟩
  obtain ⟨w, ew, hw1, hw2⟩ : ∃ w : Nat, (1 : Int) + (v2 : Int) = (w : Int) ∧ 1 ≤ w ∧ w ≤ 6 := ⟨1 + v2, by omega, by omega, by omega⟩
  simp_arith [ew, r1_map (show h < 1000000000 by omega)]
  refine wp_forx (X := Nat) (xs := List.range h) (h := fun i : Nat => D.int (i : Int)) (fun rest s => ∃ (g : List (List Cell)) (a b c : Int) (o6 o7 o8 o9 o10 : Option Slot), rest = (List.range h).drop g.length ∧ g.length ≤ h ∧ (∀ r ∈ g, r.length = w) ∧ (tws g.flatten).Nodup ∧ (∀ l ∈ tws g.flatten, gw l) ∧ (g.length = h → tws g.flatten ≠ []) ∧
      s = ⟨[some ⟨prs a b c, 1, true⟩, some ⟨.int most, 0, false⟩, some ⟨.int (h : Int), 0, false⟩, some ⟨.int (w : Int), 0, false⟩, some ⟨.lst ((tws g.flatten).map dt), 1, false⟩, some ⟨.lst (g.map rwD), 1, false⟩, o6, o7, o8, o9, o10], S⟩ ∧ pinned o6 = false ∧ pinned o7 = false ∧ pinned o8 = false ∧ pinned o9 = false ∧ pinned o10 = false)
    ⟨[], a, b, c, none, none, none, none, none, rfl, Nat.zero_le _, by simp, by simp [tws], by simp [tws], by intro e; simp at e; omega, rfl, rfl, rfl, rfl, rfl, rfl⟩ (fun x rest s hI => ?_) (fun s hI => ?_)
  · obtain ⟨g, a, b, c, o6, o7, o8, o9, o10, hr, hg, hrl, hnd, hgw, hso, rfl, n6, n7, n8, n9, n10⟩ := hI
    obtain ⟨rfl, hr', hlt⟩ := rdc hr
    simp_arith [n6, n7, r1_map (show w < 1000000000 by omega)]
    refine wp_forx (X := Nat) (xs := List.range w) (h := fun i : Nat => D.int (i : Int)) (fun rest s => ∃ (p : List Cell) (a b c : Int) (o8 o9 o10 : Option Slot), rest = (List.range w).drop p.length ∧ p.length ≤ w ∧ (tws (g.flatten ++ p)).Nodup ∧ (∀ l ∈ tws (g.flatten ++ p), gw l) ∧ (g.length + 1 = h → p.length = w → tws (g.flatten ++ p) ≠ []) ∧
        s = ⟨[some ⟨prs a b c, 1, true⟩, some ⟨.int most, 0, false⟩, some ⟨.int (h : Int), 0, false⟩, some ⟨.int (w : Int), 0, false⟩, some ⟨.lst ((tws (g.flatten ++ p)).map dt), 1, false⟩, some ⟨.lst (g.map rwD), 1, false⟩, some ⟨.int (g.length : Int), 0, false⟩, some ⟨.lst (p.map cD), 1, false⟩, o8, o9, o10], S⟩ ∧ pinned o8 = false ∧ pinned o9 = false ∧ pinned o10 = false)
      ⟨[], a, b, c, o8, o9, o10, rfl, Nat.zero_le _, by rw [List.append_nil]; exact hnd, by rw [List.append_nil]; exact hgw, by intro _ e; simp at e; omega, by rw [List.append_nil]; rfl, n8, n9, n10⟩ (fun x rest s hI => ?_) (fun s hI => ?_)
    · obtain ⟨p, a, b, c, o8, o9, o10, hr, hp, hnd, hgw, hso2, rfl, n8, n9, n10⟩ := hI
      obtain ⟨rfl, hr'', hlt2⟩ := rdc hr
      simp -implicitDefEqProofs only [w_ins, obF_o, clB_1, w_att, w_meth, w_methK, w_mk, w_mkI, w_mkK, w_mkKI, noneO_n, w_setI, w_fld, ap_get, ap_set, few_0, few_1, few_2, few_3, putI_0, lck_v1, lck_v0, w_ds, w_dsO, w_aug, w_augS, par3_c, w_par3, lenG_l, lenG_t, lenG_r, lenG_d, lenG_s, minG_i, maxG_i, w_frz, w_bnd, w_ret, w_stuck, w_opt, w_vr, w_cn, w_lookV, w_lookS, w_flatV, w_flatS, w_ownV, w_ownS, w_movV, w_movS, w_ifS, w_ifV, w_andT, w_orT, w_notT, w_truM, w_andV, w_orV, w_notV, Sq_nx, Sq_bk, Sq_ct, Sq_rt, w_bin, w_uno, w_cmpV, w_cmpT, w_chV, w_chT, w_st, w_rt, w_exM, w_set, w_evN, w_evC, w_flats0, w_flats, w_fzo, w_fzos0, w_fzos, w_blt, w_tup, w_lst, w_stO, w_idx, gt_0, gt_V, gt_S, w_call, w_callO, fill_0, fill_n, fill_s, dfl_0, dfl_c, w_callV, w_callK, fin_rt, fin_nx, pins_0, pins_n, pins_t, w_src, w_srS, srS_l0, srS_l1, srS_t, srS_c, srS_s, srS_d0, srS_d1, srV_l0, srV_l1, srV_t, srV_c, srV_s, srV_d, w_rng1, w_en, on1_c, w_enV, w_enS, enS_t, enS_s, enS_l0, enS_l1, w_prt, prF_i, w_sl, w_sm, sF_s, w_lm, w_lmP, lF_l, w_lmO, lmS_l, w_par, par2_c, w_tupG, tpF_t1, tpF_t2, tpF_t3, tpF_t4, tpF_l2, tpF_l3, w_setsN, w_setsC, w_prsN, w_prsC, w_dct, w_get, dF_d, w_for, tn_nx, tn_ct, tn_bk, tn_rt, w_lc, w_step, atS_s, atT_s, atO_s, Bt_t, Bt_f, Gd_t, z0_0, z0_1, z0_2, z0_s, le1_0, le1_1, fz_0, fz_all, fz_l1, leC_k0, leC_k1, leC_k2, leC_k3, leC_k4, leC_k5, leC_k6, leC_k7, leC_k8, leC_k9, leC_k10, leC_k11, leC_k12, leC_k13, leC_k14, leC_k15, leC_k16, pin_s, pin_n, neq_t, wipe_0, wipe_c, back_0, back_c, unp_0, unp_c, List.getElem?_cons_zero, List.getElem?_cons_succ, List.set_cons_zero, List.set_cons_succ, Bool.not_true, Bool.not_false, Bool.and_true, Bool.true_and, Bool.and_false, List.map_cons, List.map_nil, List.length_cons, List.length_nil, List.take_succ_cons, List.take_zero, List.cons_append, List.nil_append, Option.map_some, List.getD_cons_zero, List.getD_cons_succ, Option.getD_some, Option.getD_none, Nat.reduceAdd, Nat.zero_add, Nat.reduceSub, List.replicate, Nat.add_zero, if_true, if_false, ite_true, ite_false, Bool.false_eq_true, reduceIte, add_i, sub_i, lt_i, gt_i, ge_i, le_i, int_b, int_i, tru_b, tru_i, tru_n, tru_l, tru_t, len_l, len_t, len_r, tup_l, tup_t, is_n, pop0, decide_true, decide_false, Nat.reduceLeDiff, n8]
      rw [w_seq, w_st]
      refine (lake_ok hgw).mono ?_
      rintro _ _ ⟨lk, a, b, c, rfl, rfl, hlk⟩
      have hlen : (tws (g.flatten ++ p)).length ≤ 35 := by
        refine Nat.le_trans (tws_len _) ?_
        rw [List.length_append]
        have e1 : g.flatten.length = g.length * w := flat_len hrl
        rw [e1]
        have e2 : g.length * w ≤ 5 * w := Nat.mul_le_mul_right w (by omega)
        omega
      simp_arith [n9]
      refine (fresh_s hlen hgw).mono ?_
      rintro _ _ _ _ ⟨l, a, b, c, hl, hlu, rfl, rfl, rfl, rfl⟩
      have hpc : (p.map cD).length < cap := Nat.lt_of_lt_of_le (show _ < 1000 by rw [List.length_map]; omega) cap_big
      simp_arith [n10]
      refine Bt_by (fun hk => ?_) (fun hk => ?_)
      · have e1 : p.map cD ++ [D.non] = (p ++ [none]).map cD := by rw [List.map_append]; rfl
        simp_arith [app_ok hpc, e1]
        have e2 : tws (g.flatten ++ (p ++ [none])) = tws (g.flatten ++ p) := by rw [← List.append_assoc, tws_n]
        refine ⟨p ++ [none], a, b, c, _, _, _, by rw [List.length_append]; exact hr'', by rw [List.length_append]; exact hlt2, by rw [e2]; exact hnd, by rw [e2]; exact hgw, fun h3 h4 => ?_, by rw [e2], rfl, rfl, rfl⟩
        rw [e2]
        rcases hlk hk with h5 | h5
        · exact h5
        · rw [List.length_append, List.length_singleton] at h4
          omega
      · have htc : ((tws (g.flatten ++ p)).map dt).length < cap := Nat.lt_of_lt_of_le (show _ < 1000 by rw [List.length_map]; omega) cap_big
        have e1 : p.map cD ++ [dt l] = (p ++ [some l]).map cD := by rw [List.map_append]; rfl
        have e3 : (tws (g.flatten ++ p)).map dt ++ [dt l] = (tws (g.flatten ++ (p ++ [some l]))).map dt := by rw [← List.append_assoc, tws_s, List.map_append]; rfl
        simp_arith [app_ok hpc, app_ok htc, e1, e3]
        have e2 : tws (g.flatten ++ (p ++ [some l])) = tws (g.flatten ++ p) ++ [l] := by rw [← List.append_assoc, tws_s]
        refine ⟨p ++ [some l], a, b, c, _, _, _, by rw [List.length_append]; exact hr'', by rw [List.length_append]; exact hlt2, ?_, ?_, fun h3 h4 => ?_, rfl, rfl, rfl, rfl⟩
        · rw [e2]
          exact List.nodup_append.mpr ⟨hnd, by simp, fun x hx y hy e => hlu (by rw [List.mem_singleton.mp hy] at e; rw [← e]; exact hx)⟩
        · rw [e2]
          intro z hz
          rcases List.mem_append.mp hz with hz | hz
          · exact hgw z hz
          · rw [List.mem_singleton.mp hz]
            exact hl
        · rw [e2]
          simp
    · obtain ⟨p, a, b, c, o8, o9, o10, hr, hp, hnd, hgw, hso2, rfl, n8, n9, n10⟩ := hI
      have hpw := rdn hr hp
      have hgc : (g.map rwD).length < cap := Nat.lt_of_lt_of_le (show _ < 1000 by rw [List.length_map]; omega) cap_big
      have e1 : g.map rwD ++ [D.tup (p.map cD)] = (g ++ [p]).map rwD := by rw [List.map_append]; rfl
      simp_arith [app_ok hgc, e1]
      have e2 : (g ++ [p]).flatten = g.flatten ++ p := by rw [List.flatten_append]; simp
      refine ⟨g ++ [p], a, b, c, _, _, _, _, _, by rw [List.length_append]; exact hr', by rw [List.length_append]; exact hlt, ?_, by rw [e2]; exact hnd, by rw [e2]; exact hgw, fun h3 => ?_, by rw [e2], rfl, rfl, n8, n9, n10⟩
      · intro r hr
        rcases List.mem_append.mp hr with hr | hr
        · exact hrl r hr
        · rw [List.mem_singleton.mp hr]
          exact hpw
      · rw [e2]
        rw [List.length_append, List.length_singleton] at h3
        exact hso2 h3 hpw
  · obtain ⟨g, a, b, c, o6, o7, o8, o9, o10, hr, hg, hrl, hnd, hgw, hso, rfl, n6, n7, n8, n9, n10⟩ := hI
    have hgh := rdn hr hg
    simp_arith []
    exact ⟨g, a, b, c, ⟨by omega, by omega, ⟨w, hw1, hw2, hrl⟩, hso hgh, hnd, hgw⟩, rfl, rfl, rfl, rfl⟩
end Mi

set_option Elab.async false
set_option linter.all false
set_option maxRecDepth 100000
set_option maxHeartbeats 1000000
namespace Mi
open PySem L2


/-! ### dicts of texts -/
section
variable {β : Type} {val : β → D}
def dks (val : β → D) (ws : List (List Nat × β)) : List (Key × D) := ws.map fun q => (Sum.inr (tx q.1), val q.2)
def kt (c : List Nat) : Key := Sum.inr (tx c)
theorem kt_inj {a b : List Nat} (h : kt a = kt b) : a = b := tx_inj (Sum.inr.inj h)
theorem key_tx (c : List Nat) : keyOf (dt c) = some (kt c) := rfl
theorem get_ks (ws : List (List Nat × β)) (x : List Nat) : getK (dks val ws) (kt x) = (ws.lookup x).map val := by
  unfold getK dks
  induction ws with
  | nil => rfl
  | cons q ws ih =>
    obtain ⟨k, v⟩ := q
    rw [List.map_cons, List.find?_cons, List.lookup_cons]
    by_cases h : x = k
    · subst h
      have e : decide ((Sum.inr (tx x) : Key) = kt x) = true := decide_eq_true rfl
      rw [e]
      simp
    · have e : decide ((Sum.inr (tx k) : Key) = kt x) = false := decide_eq_false fun z => h (kt_inj z).symm
      have e2 : (x == k) = false := by simpa using h
      rw [e, e2]
      exact ih
theorem lkp_mem {ws : List (List Nat × β)} {x : List Nat} : (ws.lookup x).isSome = decide (x ∈ ws.map (·.1)) := by
  induction ws with
  | nil => rfl
  | cons q ws ih =>
    obtain ⟨k, v⟩ := q
    rw [List.lookup_cons, List.map_cons]
    by_cases h : x = k
    · subst h
      simp
    · have e2 : (x == k) = false := by simpa using h
      rw [e2]
      dsimp only
      rw [ih]
      simp [h]
theorem some_ks (ws : List (List Nat × β)) (x : List Nat) : (getK (dks val ws) (kt x)).isSome = decide (x ∈ ws.map (·.1)) := by
  rw [get_ks, Option.isSome_map, lkp_mem]
theorem in_ks (ws : List (List Nat × β)) (x : List Nat) : inB (dt x) (.dct (dks val ws)) = some (decide (x ∈ ws.map (·.1))) := by
  show (keyOf (dt x)).map (fun k => (getK (dks val ws) k).isSome) = _
  rw [key_tx, Option.map_some, some_ks]
theorem nin_ks (ws : List (List Nat × β)) (x : List Nat) : ninB (dt x) (.dct (dks val ws)) = some (!decide (x ∈ ws.map (·.1))) := by
  unfold ninB
  rw [in_ks]
  rfl
theorem ix_ks {ws : List (List Nat × β)} {x : List Nat} {v : β} (h : ws.lookup x = some v) : ixF (.dct (dks val ws)) (dt x) = some (val v, 0) := by
  show (keyOf (dt x)).bind (fun k => (getK (dks val ws) k).map fun d => (d, 0)) = _
  rw [key_tx]
  show (getK (dks val ws) (kt x)).map _ = _
  rw [get_ks, h]
  rfl
theorem st_ks {ws : List (List Nat × β)} {x : List Nat} {v : β} {p : Bool} (h : x ∉ ws.map (·.1)) (hl : ws.length < cap) : stO ⟨.dct (dks val ws), 1, p⟩ (dt x) (val v) = some ⟨.dct (dks val (ws ++ [(x, v)])), 1, p⟩ := by
  show (match keyOf (dt x) with
    | some k => if (dks val ws).length < cap then some (⟨.dct (putD (dks val ws) k (val v)), 1, p⟩ : Slot) else none
    | none => none) = _
  rw [key_tx]
  show (if (dks val ws).length < cap then some (⟨.dct (putD (dks val ws) (kt x) (val v)), 1, p⟩ : Slot) else none) = _
  rw [if_pos (by unfold dks; rw [List.length_map]; exact hl)]
  unfold putD
  rw [some_ks, decide_eq_false h, if_neg (by decide)]
  unfold dks
  rw [List.map_append]
  rfl
theorem kst_ks (ws : List (List Nat × β)) : keyStrs (dks val ws) = some ((ws.map (·.1)).map tx) := by
  unfold dks
  induction ws with
  | nil => rfl
  | cons q ws ih =>
    show (keyStrs ((Sum.inr (tx q.1), val q.2) :: ws.map _)) = _
    unfold keyStrs
    rw [ih]
    rfl
theorem len_ks (ws : List (List Nat × β)) : lenG [.dct (dks val ws)] = some (.int (ws.length : Nat), 0) := by
  rw [lenG_d]
  unfold dks
  rw [List.length_map]
theorem dks_len (ws : List (List Nat × β)) : (dks val ws).length = ws.length := by
  unfold dks
  rw [List.length_map]
theorem items_ks (ws : List (List Nat × β)) : itemsD (dks val ws) = ws.map fun q => D.tup [dt q.1, val q.2] := by
  unfold itemsD dks
  rw [List.map_map]
  rfl
end
theorem dk0 {β : Type} (val : β → D) : ([] : List (Key × D)) = dks val [] := rfl
/-! sorted words -/
def srtW (ls : List (List Nat)) : List (List Nat) := (sortS (ls.map tx)).map (·.cps.toList)
theorem srtW_d (ls : List (List Nat)) : (sortS (ls.map tx)).map D.str = (srtW ls).map dt := by
  unfold srtW
  rw [List.map_map]
  exact List.map_congr_left fun x _ => by
    show D.str x = dt x.cps.toList
    unfold dt
    rw [tx_of]
theorem srtW_mem {ls : List (List Nat)} {l : List Nat} : l ∈ srtW ls ↔ l ∈ ls := by
  unfold srtW sortS
  constructor
  · intro h
    obtain ⟨x, hx, rfl⟩ := List.mem_map.mp h
    obtain ⟨m, hm, rfl⟩ := List.mem_map.mp ((List.mergeSort_perm _ _).mem_iff.mp hx)
    exact hm
  · intro h
    exact List.mem_map.mpr ⟨tx l, (List.mergeSort_perm _ _).mem_iff.mpr (List.mem_map.mpr ⟨l, h, rfl⟩), rfl⟩
theorem srtW_len (ls : List (List Nat)) : (srtW ls).length = ls.length := by
  unfold srtW sortS
  rw [List.length_map, (List.mergeSort_perm _ _).length_eq, List.length_map]
theorem sort_ws {ls : List (List Nat)} (h : ls.length < 64) : sortG' [.lst (ls.map dt)] = some (.lst ((srtW ls).map dt), 1) := by
  have e : sortF [.lst (ls.map dt)] = some (.lst ((srtW ls).map dt), 1) := by
    show (strsOf (ls.map dt)).bind _ = _
    rw [strs_dt]
    show (if (ls.map tx).length < 64 then some (D.lst ((sortS (ls.map tx)).map D.str), 1) else none) = _
    rw [if_pos (by rw [List.length_map]; exact h), srtW_d]
  unfold sortG'
  rw [e]
theorem sort_ks {β : Type} {val : β → D} {ws : List (List Nat × β)} (h : ws.length < 64) : sortG' [.dct (dks val ws)] = some (.lst ((srtW (ws.map (·.1))).map dt), 1) := by
  have e : sortF [.dct (dks val ws)] = some (.lst ((srtW (ws.map (·.1))).map dt), 1) := by
    show (keyStrs (dks val ws)).bind _ = _
    rw [kst_ks]
    show (if ((ws.map (·.1)).map tx).length < 64 then some (D.lst ((sortS ((ws.map (·.1)).map tx)).map D.str), 1) else none) = _
    rw [if_pos (by rw [List.length_map, List.length_map]; exact h), srtW_d]
  unfold sortG'
  rw [e]
/-! least and greatest of two words; pairs -/
def mnL (a b : List Nat) : List Nat := if b < a then b else a
def mxL (a b : List Nat) : List Nat := if a < b then b else a
theorem min_ws (a b : List Nat) : minG [dt a, dt b] = some (dt (mnL a b), 0) := by
  show (minS [tx a, tx b]).map (fun m => (D.str m, 0)) = _
  show some (D.str (if (tx b).cps.toList < (tx a).cps.toList then tx b else tx a), 0) = _
  unfold mnL
  rw [tx_cps, tx_cps]
  split <;> rfl
theorem max_ws (a b : List Nat) : maxG [dt a, dt b] = some (dt (mxL a b), 0) := by
  show (maxS [tx a, tx b]).map (fun m => (D.str m, 0)) = _
  show some (D.str (if (tx a).cps.toList < (tx b).cps.toList then tx b else tx a), 0) = _
  unfold mxL
  rw [tx_cps, tx_cps]
  split <;> rfl
theorem min_wt (a b : List Nat) : minG [.tup [dt a, dt b]] = some (dt (mnL a b), 0) := min_ws a b
theorem max_wt (a b : List Nat) : maxG [.tup [dt a, dt b]] = some (dt (mxL a b), 0) := max_ws a b
abbrev Pr := List Nat × List Nat
def prD (q : Pr) : D := .tup [dt q.1, dt q.2]
def prK (q : Pr) : List Key := [kt q.1, kt q.2]
theorem sort_ps (ps : List Pr) : ∃ X : List Pr, sortG' [.lst (ps.map prD)] = some (.lst (X.map prD), 1) ∧ (∀ q, q ∈ X ↔ q ∈ ps) ∧ X.length = ps.length := by
  cases ps with
  | nil =>
    have e := sort_ws (ls := []) (by decide)
    have e2 : srtW [] = [] := List.length_eq_zero_iff.mp (srtW_len [])
    rw [e2] at e
    exact ⟨[], e, fun q => Iff.rfl, rfl⟩
  | cons p ps =>
    have e0 : sortF [.lst ((p :: ps).map prD)] = none := rfl
    have e1 : rowsOf ((p :: ps).map prD) = some ((p :: ps).map prK) := by
      generalize p :: ps = qs
      induction qs with
      | nil => rfl
      | cons q qs ih =>
        show (keysOfD [dt q.1, dt q.2]).bind (fun k => (rowsOf (qs.map prD)).map (k :: ·)) = _
        rw [ih]
        rfl
    have e2 : sigOk ((p :: ps).map prK) = true := by
      show (!(prK p).isEmpty && (ps.map prK).all fun q => sig q == sig (prK p)) = true
      rw [Bool.and_eq_true]
      refine ⟨rfl, List.all_eq_true.mpr fun q hq => ?_⟩
      obtain ⟨z, _, rfl⟩ := List.mem_map.mp hq
      rfl
    have hp : (sortR ((p :: ps).map prK)).Perm ((p :: ps).map prK) := List.mergeSort_perm _ _
    have key : ∀ rs : List (List Key), (∀ r ∈ rs, ∃ q ∈ p :: ps, r = prK q) → ∃ X : List Pr, rs = X.map prK ∧ ∀ q ∈ X, q ∈ p :: ps := by
      intro rs
      induction rs with
      | nil => intro _; exact ⟨[], rfl, by simp⟩
      | cons r rs ih =>
        intro h
        obtain ⟨q, hq, rfl⟩ := h r (List.mem_cons_self ..)
        obtain ⟨X, e, hX⟩ := ih fun r hr => h r (List.mem_cons_of_mem _ hr)
        refine ⟨q :: X, by rw [List.map_cons, e], fun z hz => ?_⟩
        rcases List.mem_cons.mp hz with rfl | hz
        · exact hq
        · exact hX z hz
    obtain ⟨X, eX, hX⟩ := key (sortR ((p :: ps).map prK)) fun r hr => by
      obtain ⟨q, hq, rfl⟩ := List.mem_map.mp (hp.mem_iff.mp hr)
      exact ⟨q, hq, rfl⟩
    refine ⟨X, ?_, fun q => ⟨hX q, fun hq => ?_⟩, ?_⟩
    · have e3 : sortRF [.lst ((p :: ps).map prD)] = some (.lst (X.map prD), 1) := by
        show (rowsOf ((p :: ps).map prD)).bind (fun rs => if sigOk rs then some (D.lst ((sortR rs).map rowD), 1) else none) = _
        rw [e1, Option.bind_some, e2, if_pos rfl, eX, List.map_map]
        rfl
      unfold sortG'
      rw [e0]
      exact e3
    · have : prK q ∈ X.map prK := by
        rw [← eX]
        exact hp.mem_iff.mpr (List.mem_map.mpr ⟨q, hq, rfl⟩)
      obtain ⟨z, hz, e⟩ := List.mem_map.mp this
      have e1 : kt z.1 = kt q.1 ∧ kt z.2 = kt q.2 := by
        have e' : [kt z.1, kt z.2] = [kt q.1, kt q.2] := e
        simpa using e'
      rw [← show z = q from Prod.ext (kt_inj e1.1) (kt_inj e1.2)]
      exact hz
    · have e4 := congrArg List.length eX
      rw [hp.length_eq, List.length_map, List.length_map] at e4
      exact e4.symm
noncomputable def srtP (ps : List Pr) : List Pr := Classical.choose (sort_ps ps)
theorem sortp (ps : List Pr) : sortG' [.lst (ps.map prD)] = some (.lst ((srtP ps).map prD), 1) := (Classical.choose_spec (sort_ps ps)).1
theorem srtP_mem {ps : List Pr} {q : Pr} : q ∈ srtP ps ↔ q ∈ ps := (Classical.choose_spec (sort_ps ps)).2.1 q
theorem srtP_len (ps : List Pr) : (srtP ps).length = ps.length := (Classical.choose_spec (sort_ps ps)).2.2

/-! ### a land's villages -/
def twR (r : Nat) (ds : List (Cell × Nat)) : List (List Nat × (Nat × Nat)) := ds.filterMap fun q => q.1.map fun l => (l, (r, q.2))
def twL (ds : List (List Cell × Nat)) : List (List Nat × (Nat × Nat)) := ds.flatMap fun q => twR q.2 q.1.zipIdx
def tw (g : List (List Cell)) : List (List Nat × (Nat × Nat)) := twL g.zipIdx
def spV (p : Nat × Nat) : D := .tup [.int (p.1 : Nat), .int (p.2 : Nat)]
theorem twR_app (r : Nat) (a b : List (Cell × Nat)) : twR r (a ++ b) = twR r a ++ twR r b := List.filterMap_append
theorem twL_app (a b : List (List Cell × Nat)) : twL (a ++ b) = twL a ++ twL b := List.flatMap_append
theorem twR_n (r q : Nat) (a : List (Cell × Nat)) : twR r (a ++ [(none, q)]) = twR r a := by rw [twR_app]; exact List.append_nil _
theorem twR_s (r q : Nat) (l : List Nat) (a : List (Cell × Nat)) : twR r (a ++ [(some l, q)]) = twR r a ++ [(l, (r, q))] := by rw [twR_app]; rfl
theorem twL_1 (a : List (List Cell × Nat)) (q : List Cell × Nat) : twL (a ++ [q]) = twL a ++ twR q.2 q.1.zipIdx := by
  rw [twL_app]
  congr 1
  unfold twL
  simp
theorem twR_k (r : Nat) : ∀ ds : List (Cell × Nat), (twR r ds).map (·.1) = tws (ds.map (·.1))
  | [] => rfl
  | (none, q) :: ds => by
    show (twR r ds).map (·.1) = _
    rw [twR_k r ds]
    rfl
  | (some l, q) :: ds => by
    show l :: (twR r ds).map (·.1) = _
    rw [twR_k r ds]
    rfl
theorem twL_k : ∀ ds : List (List Cell × Nat), (twL ds).map (·.1) = tws ((ds.map (·.1)).flatten)
  | [] => rfl
  | q :: ds => by
    show (twR q.2 q.1.zipIdx ++ twL ds).map (·.1) = _
    rw [List.map_append, twR_k, twL_k ds, List.zipIdx_map_fst, List.map_cons, List.flatten_cons, tws_app]
theorem tw_k (g : List (List Cell)) : (tw g).map (·.1) = tws g.flatten := by
  unfold tw
  rw [twL_k, List.zipIdx_map_fst]
section
variable {g : List (List Cell)} (G : Gl g)
include G
theorem Gl.cells : g.flatten.length ≤ 36 := by
  obtain ⟨w, h1, h2, h3⟩ := G.w
  rw [flat_len h3]
  exact Nat.mul_le_mul G.h6 h2
theorem Gl.tw36 : (tw g).length ≤ 36 := by
  have e := congrArg List.length (tw_k g)
  rw [List.length_map] at e
  rw [e]
  exact Nat.le_trans (tws_len _) G.cells
theorem Gl.twn : (tw g) ≠ [] := fun e => G.some_ (by rw [← tw_k, e]; rfl)
theorem Gl.twg : ∀ q ∈ tw g, gw q.1 := fun q hq => G.gd q.1 (by rw [← tw_k]; exact List.mem_map.mpr ⟨q, hq, rfl⟩)
theorem Gl.twd : ((tw g).map (·.1)).Nodup := by rw [tw_k]; exact G.nd
end
/-! reading data -/
theorem cD_n : cD none = .non := rfl
theorem cD_s (l : List Nat) : cD (some l) = dt l := rfl
theorem isi_rw (r : List Cell) : isiF [rwD r, .ty "tuple"] = some (.bl true, 0) := rfl
theorem isi_ld (g : List (List Cell)) : isiF [lndD g, .ty "tuple"] = some (.bl true, 0) := rfl
theorem len_rw (r : List Cell) : lenG [rwD r] = some (.int (r.length : Nat), 0) := by
  show some (D.int ((r.map cD).length : Nat), 0) = _
  rw [List.length_map]
theorem len_ld (g : List (List Cell)) : lenG [lndD g] = some (.int (g.length : Nat), 0) := by
  show some (D.int ((g.map rwD).length : Nat), 0) = _
  rw [List.length_map]
theorem ix_rw {r : List Cell} {i : Nat} {c : Cell} (h : r[i]? = some c) : ixF (rwD r) (.int (i : Nat)) = some (cD c, 0) := ix_t (by rw [List.getElem?_map, h]; rfl)
theorem ix_ld {g : List (List Cell)} {i : Nat} {r : List Cell} (h : g[i]? = some r) : ixF (lndD g) (.int (i : Nat)) = some (rwD r, 0) := ix_t (by rw [List.getElem?_map, h]; rfl)
theorem enS_ld {i k : Nat} {r : List (Option Slot)} {S : List Inst} (g : List (List Cell)) (p : Bool) (Q : Src → Sx → Prop) : enS i ⟨lndD g, k, p⟩ r S Q = Q (.fix (g.zipIdx.map fun q => D.tup [.int (q.2 : Nat), rwD q.1])) ⟨r, S⟩ := by
  show enS i ⟨.tup (g.map rwD), k, p⟩ r S Q = _
  rw [enS_t, en_map]
theorem enS_rw {i k : Nat} {r : List (Option Slot)} {S : List Inst} (g : List Cell) (p : Bool) (Q : Src → Sx → Prop) : enS i ⟨rwD g, k, p⟩ r S Q = Q (.fix (g.zipIdx.map fun q => D.tup [.int (q.2 : Nat), cD q.1])) ⟨r, S⟩ := by
  show enS i ⟨.tup (g.map cD), k, p⟩ r S Q = _
  rw [enS_t, en_map]
theorem srS_ld {i k : Nat} {r : List (Option Slot)} {S : List Inst} (g : List (List Cell)) (p : Bool) (Q : Src → Sx → Prop) : srS i ⟨lndD g, k, p⟩ r S Q = Q (.fix (g.map rwD)) ⟨r, S⟩ := srS_t _ _ _
theorem srS_rw {i k : Nat} {r : List (Option Slot)} {S : List Inst} (g : List Cell) (p : Bool) (Q : Src → Sx → Prop) : srS i ⟨rwD g, k, p⟩ r S Q = Q (.fix (g.map cD)) ⟨r, S⟩ := srS_t _ _ _
theorem nis_n (d : D) : nisB d .non = some (!isNon d) := rfl
theorem isN_dt (l : List Nat) : isNon (dt l) = false := rfl
theorem isN_n : isNon .non = true := rfl
theorem isN_l (ds : List D) : isNon (.lst ds) = false := rfl
theorem dcap {ws : List (List Nat × (Nat × Nat))} (h : ws.length ≤ 36) : ws.length < cap := Nat.lt_of_lt_of_le (show _ < 1000 by omega) cap_big
/-- a name that isn't told yet -/
theorem new_k {g : List (List Cell)} (G : Gl g) {done rest : List (List Cell × Nat)} {row : List Cell} {r q : Nat} {d2 r2 : List (Cell × Nat)} {l : List Nat} (e : g.zipIdx = done ++ (row, r) :: rest) (e2 : row.zipIdx = d2 ++ (some l, q) :: r2) :
    l ∉ (twL done ++ twR r d2).map (·.1) ∧ gw l ∧ (twL done ++ twR r d2).length ≤ 36 := by
  have h : tw g = (twL done ++ twR r d2) ++ ((l, (r, q)) :: (twR r r2 ++ twL rest)) := by
    unfold tw
    rw [e, twL_app]
    show twL done ++ (twR r row.zipIdx ++ twL rest) = _
    rw [e2, twR_app]
    show twL done ++ ((twR r d2 ++ (l, (r, q)) :: twR r r2) ++ twL rest) = _
    simp [List.append_assoc]
  refine ⟨fun hm => ?_, ?_, ?_⟩
  · have hn := G.twd
    rw [h, List.map_append] at hn
    exact (List.nodup_append.mp hn).2.2 l hm l (List.mem_cons_self ..) rfl
  · exact G.twg (l, (r, q)) (by rw [h]; exact List.mem_append_right _ (List.mem_cons_self ..))
  · have := G.tw36
    rw [h, List.length_append] at this
    omega
end Mi

set_option Elab.async false
set_option linter.all false
set_option maxRecDepth 100000
set_option maxHeartbeats 1000000
namespace Mi
open PySem L2
local macro_rules | `(tactic| simp_arith [$ls,*]) => `(tactic| simp -implicitDefEqProofs only [w_ins, obF_o, clB_1, w_att, w_meth, w_methK, w_mk, w_mkI, w_mkK, w_mkKI, noneO_n, w_setI, w_fld, ap_get, ap_set, few_0, few_1, few_2, few_3, putI_0, lck_v1, lck_v0, w_ds, w_dsO, w_aug, w_augS, par3_c, w_par3, lenG_l, lenG_t, lenG_r, lenG_d, lenG_s, minG_i, maxG_i, w_frz, w_bnd, w_ret, w_stuck, w_opt, w_vr, w_cn, w_lookV, w_lookS, w_flatV, w_flatS, w_ownV, w_ownS, w_movV, w_movS, w_ifS, w_ifV, w_andT, w_orT, w_notT, w_truM, w_andV, w_orV, w_notV, Sq_nx, Sq_bk, Sq_ct, Sq_rt, w_seq, w_bin, w_uno, w_cmpV, w_cmpT, w_chV, w_chT, w_st, w_rt, w_exM, w_set, w_evN, w_evC, w_flats0, w_flats, w_fzo, w_fzos0, w_fzos, w_blt, w_tup, w_lst, w_stO, w_idx, gt_0, gt_V, gt_S, w_call, w_callO, fill_0, fill_n, fill_s, dfl_0, dfl_c, w_callV, w_callK, fin_rt, fin_nx, pins_0, pins_n, pins_t, w_src, w_srS, srS_l0, srS_l1, srS_t, srS_c, srS_s, srS_d0, srS_d1, srV_l0, srV_l1, srV_t, srV_c, srV_s, srV_d, w_rng1, w_en, on1_c, w_enV, w_enS, enS_t, enS_s, enS_l0, enS_l1, w_prt, prF_i, w_sl, w_sm, sF_s, w_lm, w_lmP, lF_l, w_lmO, lmS_l, w_par, par2_c, w_tupG, tpF_t1, tpF_t2, tpF_t3, tpF_t4, tpF_l2, tpF_l3, w_setsN, w_setsC, w_prsN, w_prsC, w_dct, w_get, dF_d, w_for, tn_nx, tn_ct, tn_bk, tn_rt, w_lc, w_step, atS_s, atT_s, atO_s, Bt_t, Bt_f, Gd_t, z0_0, z0_1, z0_2, z0_s, le1_0, le1_1, fz_0, fz_all, fz_l1, leC_k0, leC_k1, leC_k2, leC_k3, leC_k4, leC_k5, leC_k6, leC_k7, leC_k8, leC_k9, leC_k10, leC_k11, leC_k12, leC_k13, leC_k14, leC_k15, leC_k16, pin_s, pin_n, neq_t, wipe_0, wipe_c, back_0, back_c, unp_0, unp_c, List.getElem?_cons_zero, List.getElem?_cons_succ, List.set_cons_zero, List.set_cons_succ, Bool.not_true, Bool.not_false, Bool.and_true, Bool.true_and, Bool.and_false, List.map_cons, List.map_nil, List.length_cons, List.length_nil, List.take_succ_cons, List.take_zero, List.cons_append, List.nil_append, Option.map_some, List.getD_cons_zero, List.getD_cons_succ, Option.getD_some, Option.getD_none, Nat.reduceAdd, Nat.zero_add, Nat.reduceSub, List.replicate, Nat.add_zero, if_true, if_false, ite_true, ite_false, Bool.false_eq_true, reduceIte, add_i, sub_i, lt_i, gt_i, ge_i, le_i, int_b, int_i, tru_b, tru_i, tru_n, tru_l, tru_t, len_l, len_t, len_r, tup_l, tup_t, is_n, pop0, decide_true, decide_false, Nat.reduceLeDiff, $ls,*])

/-! ### what the program tells of rows -/
def VaQ (v : D) (S : List Inst) (d : D) (k : Nat) (outs : List (Option Slot)) (S' : List Inst) : Prop := d = v ∧ k = 0 ∧ S = S'
def FrsQ (v : D) (S : List Inst) (d : D) (k : Nat) (outs : List (Option Slot)) (S' : List Inst) : Prop := d = v ∧ k = 1 ∧ S = S'
theorem spV_i (r q : Nat) : D.tup [.int (r : Int), .int (q : Int)] = spV (r, q) := rfl
theorem spots_s {S : List Inst} {g : List (List Cell)} (G : Gl g) : FOk fn_spots_of [⟨lndD g, 0, false⟩] S (FrsQ (.dct (dks spV (tw g))) S) := by
  unfold fn_spots_of m_spots_of
  rw [f_fn]
  simp_arith [enS_ld]
  refine wp_forx (X := List Cell × Nat) (xs := g.zipIdx) (h := fun q => D.tup [.int (q.2 : Nat), rwD q.1]) (fun rest s => ∃ (done : List (List Cell × Nat)) (o2 o3 o4 o5 : Option Slot), g.zipIdx = done ++ rest ∧ s = ⟨[some ⟨lndD g, 0, false⟩, some ⟨.dct (dks spV (twL done)), 1, false⟩, o2, o3, o4, o5], S⟩ ∧ pinned o2 = false ∧ pinned o3 = false ∧ pinned o4 = false ∧ pinned o5 = false)
    ⟨[], none, none, none, none, rfl, rfl, rfl, rfl, rfl, rfl⟩ (fun x rest s hI => ?_) (fun s hI => ?_)
  · obtain ⟨done, o2, o3, o4, o5, e, rfl, n2, n3, n4, n5⟩ := hI
    obtain ⟨row, r⟩ := x
    simp_arith [n2, n3, enS_rw]
    refine wp_forx (X := Cell × Nat) (xs := row.zipIdx) (h := fun q => D.tup [.int (q.2 : Nat), cD q.1]) (fun r2 s => ∃ (d2 : List (Cell × Nat)) (o4 o5 : Option Slot), row.zipIdx = d2 ++ r2 ∧ s = ⟨[some ⟨lndD g, 0, false⟩, some ⟨.dct (dks spV (twL done ++ twR r d2)), 1, false⟩, some ⟨.int (r : Nat), 0, false⟩, some ⟨rwD row, 0, false⟩, o4, o5], S⟩ ∧ pinned o4 = false ∧ pinned o5 = false)
      ⟨[], o4, o5, rfl, by rw [show twR r [] = [] from rfl, List.append_nil], n4, n5⟩ (fun x r2 s hI => ?_) (fun s hI => ?_)
    · obtain ⟨d2, o4, o5, e2, rfl, n4, n5⟩ := hI
      obtain ⟨c, q⟩ := x
      cases c with
      | none =>
        simp_arith [n4, n5, cD_n, nis_n, isN_n]
        exact ⟨d2 ++ [(none, q)], _, _, by rw [e2]; simp, by rw [twR_n], rfl, rfl⟩
      | some l =>
        obtain ⟨h1, h2, h3⟩ := new_k G e e2
        simp_arith [n4, n5, cD_s, nis_n, isN_dt, spV_i, st_ks h1 (dcap h3)]
        exact ⟨d2 ++ [(some l, q)], _, _, by rw [e2]; simp, by rw [twR_s, ← List.append_assoc], rfl, rfl⟩
    · obtain ⟨d2, o4, o5, e2, rfl, n4, n5⟩ := hI
      rw [List.append_nil] at e2
      exact ⟨done ++ [(row, r)], _, _, _, _, by rw [e]; simp, by rw [twL_1, e2], rfl, rfl, n4, n5⟩
  · obtain ⟨done, o2, o3, o4, o5, e, rfl, n2, n3, n4, n5⟩ := hI
    rw [List.append_nil] at e
    simp_arith []
    refine ⟨?_, rfl, rfl⟩
    rw [← e]
    rfl
theorem eq_nn (a b : Nat) : eqB (.int (a : Int)) (.int (b : Int)) = some (decide (a = b)) := by
  rw [eq_i]
  congr 1
  rw [decide_eq_decide]
  omega
theorem isrow_s {S : List Inst} {r : List Cell} {w : Nat} (h : r.length = w) : FOk fn_is_row [⟨rwD r, 0, false⟩, ⟨.int (w : Nat), 0, false⟩] S (BlQ true S) := by
  unfold fn_is_row m_is_row
  rw [f_fn]
  simp_arith [isi_rw, len_rw, eq_nn, decide_eq_true h]
  exact ⟨rfl, rfl, rfl⟩
theorem Gl.r0 {g : List (List Cell)} (G : Gl g) : ∃ r, g[0]? = some r ∧ r ∈ g := by
  have h : 0 < g.length := G.h1
  exact ⟨g[0], List.getElem?_eq_getElem h, List.getElem_mem h⟩
theorem laid_s {S : List Inst} {g : List (List Cell)} (G : Gl g) : FOk fn_are_laid [⟨lndD g, 0, false⟩] S (BlQ true S) := by
  unfold fn_are_laid m_are_laid
  rw [f_fn]
  obtain ⟨r0, e0, hr0⟩ := G.r0
  have i0 : ixF (lndD g) (.int 0) = some (rwD r0, 0) := ix_ld e0
  obtain ⟨w, w1, w6, hw⟩ := G.w
  have h1 := G.h1
  have h6 := G.h6
  have hrw := hw r0 hr0
  simp_arith [isi_ld, len_ld, i0, isi_rw, len_rw, hrw, show decide ((g.length : Int) < 1) = false from decide_eq_false (by omega), show decide ((6 : Int) < (g.length : Int)) = false from decide_eq_false (by omega), show decide ((w : Int) < 1) = false from decide_eq_false (by omega), show decide ((6 : Int) < (w : Int)) = false from decide_eq_false (by omega), srS_ld]
  refine wp_lcx (X := List Cell) (xs := g) (h := rwD) (fun _ => .bl true) (Nat.le_trans h6 (by decide)) rfl (fun x hx => ?_) ?_
  · simp_arith []
    refine (isrow_s (hw x hx)).mono ?_
    rintro _ _ _ _ ⟨rfl, rfl, rfl⟩
    simp_arith [fill_n2]
    exact ⟨rfl, rfl, rfl⟩
  · simp_arith [all_t (g.map fun _ => D.bl true) (fun d hd => by obtain ⟨_, _, rfl⟩ := List.mem_map.mp hd; rfl)]
    exact ⟨rfl, rfl, rfl⟩
def tru : (Nat × Nat) → D := fun _ => .bl true
theorem arerows_s {S : List Inst} {g : List (List Cell)} (G : Gl g) : FOk fn_are_rows [⟨lndD g, 0, false⟩] S (VaQ .non S) := by
  unfold fn_are_rows m_are_rows
  rw [f_fn]
  simp_arith []
  refine (laid_s G).mono ?_
  rintro _ _ _ _ ⟨rfl, rfl, rfl⟩
  simp_arith [fill_n1, enS_ld]
  refine wp_forx (X := List Cell × Nat) (xs := g.zipIdx) (h := fun q => D.tup [.int (q.2 : Nat), rwD q.1]) (fun rest s => ∃ (done : List (List Cell × Nat)) (o2 o3 o4 o5 : Option Slot), g.zipIdx = done ++ rest ∧ s = ⟨[some ⟨lndD g, 0, false⟩, some ⟨.dct (dks tru (twL done)), 1, false⟩, o2, o3, o4, o5], S⟩ ∧ pinned o2 = false ∧ pinned o3 = false ∧ pinned o4 = false ∧ pinned o5 = false)
    ⟨[], none, none, none, none, rfl, rfl, rfl, rfl, rfl, rfl⟩ (fun x rest s hI => ?_) (fun s hI => ?_)
  · obtain ⟨done, o2, o3, o4, o5, e, rfl, n2, n3, n4, n5⟩ := hI
    obtain ⟨row, r⟩ := x
    simp_arith [n2, n3, enS_rw]
    refine wp_forx (X := Cell × Nat) (xs := row.zipIdx) (h := fun q => D.tup [.int (q.2 : Nat), cD q.1]) (fun r2 s => ∃ (d2 : List (Cell × Nat)) (o4 o5 : Option Slot), row.zipIdx = d2 ++ r2 ∧ s = ⟨[some ⟨lndD g, 0, false⟩, some ⟨.dct (dks tru (twL done ++ twR r d2)), 1, false⟩, some ⟨.int (r : Nat), 0, false⟩, some ⟨rwD row, 0, false⟩, o4, o5], S⟩ ∧ pinned o4 = false ∧ pinned o5 = false)
      ⟨[], o4, o5, rfl, by rw [show twR r [] = [] from rfl, List.append_nil], n4, n5⟩ (fun x r2 s hI => ?_) (fun s hI => ?_)
    · obtain ⟨d2, o4, o5, e2, rfl, n4, n5⟩ := hI
      obtain ⟨c, q⟩ := x
      cases c with
      | none =>
        simp_arith [n4, n5, cD_n, is_n, isN_n]
        exact ⟨d2 ++ [(none, q)], _, _, by rw [e2]; simp, by rw [twR_n], rfl, rfl⟩
      | some l =>
        obtain ⟨h1, h2, h3⟩ := new_k G e e2
        simp_arith [n4, n5, cD_s, is_n, isN_dt]
        refine (isword_s h2).mono ?_
        rintro _ _ _ _ ⟨rfl, rfl, rfl⟩
        have hst : stO ⟨.dct (dks tru (twL done ++ twR r d2)), 1, false⟩ (dt l) (.bl true) = some ⟨.dct (dks tru ((twL done ++ twR r d2) ++ [(l, (r, q))])), 1, false⟩ := st_ks (val := tru) (v := (r, q)) h1 (dcap h3)
        simp_arith [fill_n1, in_ks, decide_eq_false h1, hst]
        exact ⟨d2 ++ [(some l, q)], _, _, by rw [e2]; simp, by rw [twR_s, ← List.append_assoc], rfl, rfl⟩
    · obtain ⟨d2, o4, o5, e2, rfl, n4, n5⟩ := hI
      rw [List.append_nil] at e2
      exact ⟨done ++ [(row, r)], _, _, _, _, by rw [e]; simp, by rw [twL_1, e2], rfl, rfl, n4, n5⟩
  · obtain ⟨done, o2, o3, o4, o5, e, rfl, n2, n3, n4, n5⟩ := hI
    rw [List.append_nil] at e
    have hpos : 0 < (twL done).length := by
      have := G.twn
      unfold tw at this
      rw [e] at this
      exact List.length_pos_iff.mpr this
    simp_arith [dks_len, show decide ((0 : Int) < ((twL done).length : Int)) = true from decide_eq_true (by omega)]
    exact ⟨rfl, rfl, rfl⟩
/-! a part at a place -/
def wd (g : List (List Cell)) : Nat := ((g[0]?).getD []).length
def pA (g : List (List Cell)) (i j : Int) : Cell := if 0 ≤ i ∧ i < (g.length : Int) ∧ 0 ≤ j ∧ j < (wd g : Int) then ((((g[i.toNat]?).getD [])[j.toNat]?).getD none) else none
theorem Gl.wdr {g : List (List Cell)} (G : Gl g) : ∀ r ∈ g, r.length = wd g := by
  obtain ⟨w, _, _, hw⟩ := G.w
  obtain ⟨r0, e0, hr0⟩ := G.r0
  intro r hr
  unfold wd
  rw [e0, hw r hr]
  exact (hw r0 hr0).symm
theorem Gl.wd16 {g : List (List Cell)} (G : Gl g) : 1 ≤ wd g ∧ wd g ≤ 6 := by
  obtain ⟨w, h1, h6, hw⟩ := G.w
  obtain ⟨r0, e0, hr0⟩ := G.r0
  rw [← G.wdr r0 hr0, hw r0 hr0]
  exact ⟨h1, h6⟩
theorem part_s {S : List Inst} {g : List (List Cell)} (G : Gl g) (i j : Int) : FOk fn_part_at [⟨lndD g, 0, false⟩, ⟨.int i, 0, false⟩, ⟨.int j, 0, false⟩] S (VaQ (cD (pA g i j)) S) := by
  unfold fn_part_at m_part_at
  rw [f_fn]
  obtain ⟨r0, e0, hr0⟩ := G.r0
  have i0 : ixF (lndD g) (.int 0) = some (rwD r0, 0) := ix_ld e0
  have hw0 := G.wdr r0 hr0
  by_cases h : 0 ≤ i ∧ i < (g.length : Int) ∧ 0 ≤ j ∧ j < (wd g : Int)
  · obtain ⟨h1, h2, h3, h4⟩ := h
    have hi : i.toNat < g.length := by omega
    have ei : g[i.toNat]? = some g[i.toNat] := List.getElem?_eq_getElem hi
    have hj : j.toNat < g[i.toNat].length := by
      rw [G.wdr _ (List.getElem_mem hi)]
      omega
    have ej : g[i.toNat][j.toNat]? = some g[i.toNat][j.toNat] := List.getElem?_eq_getElem hj
    have x1 := ix_ld ei
    have x2 := ix_rw ej
    rw [show ((i.toNat : Nat) : Int) = i by omega] at x1
    rw [show ((j.toNat : Nat) : Int) = j by omega] at x2
    simp_arith [len_ld, i0, len_rw, hw0, show decide (i < 0) = false from decide_eq_false (by omega), decide_eq_true h2, show decide (j < 0) = false from decide_eq_false (by omega), decide_eq_true h4, x1, x2]
    refine ⟨?_, rfl, rfl⟩
    unfold pA
    rw [if_pos ⟨h1, h2, h3, h4⟩, ei]
    show _ = cD ((g[i.toNat][j.toNat]?).getD none)
    rw [ej]
    rfl
  · have hp : pA g i j = none := if_neg h
    rw [hp]
    simp_arith [len_ld, i0, len_rw, hw0]
    by_cases h1 : i < 0
    · simp_arith [len_ld, i0, len_rw, hw0, decide_eq_true h1]
      exact ⟨rfl, rfl, rfl⟩
    · simp_arith [len_ld, i0, len_rw, hw0, decide_eq_false h1]
      by_cases h2 : i < (g.length : Int)
      · simp_arith [decide_eq_true h2, len_ld, i0, len_rw, hw0]
        by_cases h3 : j < 0
        · simp_arith [len_ld, i0, len_rw, hw0, decide_eq_true h3]
          exact ⟨rfl, rfl, rfl⟩
        · simp_arith [decide_eq_false h3, len_ld, i0, len_rw, hw0]
          by_cases h4 : j < (wd g : Int)
          · exact absurd ⟨by omega, h2, by omega, h4⟩ h
          · simp_arith [len_ld, i0, len_rw, hw0, decide_eq_false h4]
            exact ⟨rfl, rfl, rfl⟩
      · simp_arith [len_ld, i0, len_rw, hw0, decide_eq_false h2]
        exact ⟨rfl, rfl, rfl⟩
end Mi

set_option Elab.async false
set_option linter.all false
set_option maxRecDepth 100000
set_option maxHeartbeats 1000000
namespace Mi
open PySem L2
local macro_rules | `(tactic| simp_arith [$ls,*]) => `(tactic| simp -implicitDefEqProofs only [w_ins, obF_o, clB_1, w_att, w_meth, w_methK, w_mk, w_mkI, w_mkK, w_mkKI, noneO_n, w_setI, w_fld, ap_get, ap_set, few_0, few_1, few_2, few_3, putI_0, lck_v1, lck_v0, w_ds, w_dsO, w_aug, w_augS, par3_c, w_par3, lenG_l, lenG_t, lenG_r, lenG_d, lenG_s, minG_i, maxG_i, w_frz, w_bnd, w_ret, w_stuck, w_opt, w_vr, w_cn, w_lookV, w_lookS, w_flatV, w_flatS, w_ownV, w_ownS, w_movV, w_movS, w_ifS, w_ifV, w_andT, w_orT, w_notT, w_truM, w_andV, w_orV, w_notV, Sq_nx, Sq_bk, Sq_ct, Sq_rt, w_seq, w_bin, w_uno, w_cmpV, w_cmpT, w_chV, w_chT, w_st, w_rt, w_exM, w_set, w_evN, w_evC, w_flats0, w_flats, w_fzo, w_fzos0, w_fzos, w_blt, w_tup, w_lst, w_stO, w_idx, gt_0, gt_V, gt_S, w_call, w_callO, fill_0, fill_n, fill_s, dfl_0, dfl_c, w_callV, w_callK, fin_rt, fin_nx, pins_0, pins_n, pins_t, w_src, w_srS, srS_l0, srS_l1, srS_t, srS_c, srS_s, srS_d0, srS_d1, srV_l0, srV_l1, srV_t, srV_c, srV_s, srV_d, w_rng1, w_en, on1_c, w_enV, w_enS, enS_t, enS_s, enS_l0, enS_l1, w_prt, prF_i, w_sl, w_sm, sF_s, w_lm, w_lmP, lF_l, w_lmO, lmS_l, w_par, par2_c, w_tupG, tpF_t1, tpF_t2, tpF_t3, tpF_t4, tpF_l2, tpF_l3, w_setsN, w_setsC, w_prsN, w_prsC, w_dct, w_get, dF_d, w_for, tn_nx, tn_ct, tn_bk, tn_rt, w_lc, w_step, atS_s, atT_s, atO_s, Bt_t, Bt_f, Gd_t, z0_0, z0_1, z0_2, z0_s, le1_0, le1_1, fz_0, fz_all, fz_l1, leC_k0, leC_k1, leC_k2, leC_k3, leC_k4, leC_k5, leC_k6, leC_k7, leC_k8, leC_k9, leC_k10, leC_k11, leC_k12, leC_k13, leC_k14, leC_k15, leC_k16, pin_s, pin_n, neq_t, wipe_0, wipe_c, back_0, back_c, unp_0, unp_c, List.getElem?_cons_zero, List.getElem?_cons_succ, List.set_cons_zero, List.set_cons_succ, Bool.not_true, Bool.not_false, Bool.and_true, Bool.true_and, Bool.and_false, List.map_cons, List.map_nil, List.length_cons, List.length_nil, List.take_succ_cons, List.take_zero, List.cons_append, List.nil_append, Option.map_some, List.getD_cons_zero, List.getD_cons_succ, Option.getD_some, Option.getD_none, Nat.reduceAdd, Nat.zero_add, Nat.reduceSub, List.replicate, Nat.add_zero, if_true, if_false, ite_true, ite_false, Bool.false_eq_true, reduceIte, add_i, sub_i, lt_i, gt_i, ge_i, le_i, int_b, int_i, tru_b, tru_i, tru_n, tru_l, tru_t, len_l, len_t, len_r, tup_l, tup_t, is_n, pop0, decide_true, decide_false, Nat.reduceLeDiff, $ls,*])

/-! ### names, neighbours, borders -/
theorem spV_e (r q : Nat) : spV (r, q) = D.tup [.int (r : Int), .int (q : Int)] := rfl
theorem tup_ls (ds : List D) : tupF [.lst ds] = some (.tup ds, 0) := rfl
def nmD (g : List (List Cell)) : D := .tup ((srtW (tws g.flatten)).map dt)
theorem namesof_s {S : List Inst} {g : List (List Cell)} (G : Gl g) : FOk fn_names_of [⟨lndD g, 0, false⟩] S (VaQ (nmD g) S) := by
  unfold fn_names_of m_names_of
  rw [f_fn]
  simp_arith []
  refine (spots_s G).mono ?_
  rintro _ _ _ _ ⟨rfl, rfl, rfl⟩
  have h : (tw g).length < 64 := Nat.lt_of_le_of_lt G.tw36 (by decide)
  simp_arith [fill_n1, sort_ks h]
  exact ⟨by unfold nmD; rw [tw_k], rfl, rfl⟩
def nbs (g : List (List Cell)) (i j : Int) : List Cell := [pA g (i - 1) j, pA g (i + 1) j, pA g i (j - 1), pA g i (j + 1)]
def nbD (g : List (List Cell)) (i j : Int) : D := .tup ((srtW (tws (nbs g i j))).map dt)
theorem fm_tws (p : List Cell) : p.filterMap (fun c => c.map dt) = (tws p).map dt := by
  induction p with
  | nil => rfl
  | cons c p ih =>
    cases c with
    | none =>
      show p.filterMap _ = (tws p).map dt
      exact ih
    | some l =>
      show dt l :: p.filterMap _ = dt l :: (tws p).map dt
      rw [ih]
theorem cap_4 : 4 ≤ cap := by decide
theorem aug4 (a b c d : D) : augF ⟨.lst [a, b], 1, false⟩ (.lst [c, d]) = some ⟨.lst [a, b, c, d], 1, false⟩ := augF_l _ _ _ cap_4
theorem map4 (a b c d : Cell) : [cD a, cD b, cD c, cD d] = [a, b, c, d].map cD := rfl
theorem nbof_s {S : List Inst} {g : List (List Cell)} (G : Gl g) {l : List Nat} {r q : Nat} (h : (tw g).lookup l = some (r, q)) : FOk fn_neighbours_of [⟨lndD g, 0, false⟩, ⟨dt l, 0, false⟩] S (VaQ (nbD g r q) S) := by
  unfold fn_neighbours_of m_neighbours_of
  rw [f_fn]
  simp_arith []
  refine (spots_s G).mono ?_
  rintro _ _ _ _ ⟨rfl, rfl, rfl⟩
  simp_arith [fill_n1, ix_ks h, spV_e]
  refine (part_s G _ _).mono ?_
  rintro _ _ _ _ ⟨rfl, rfl, rfl⟩
  simp_arith [fill_n3]
  refine (part_s G _ _).mono ?_
  rintro _ _ _ _ ⟨rfl, rfl, rfl⟩
  simp_arith [fill_n3]
  refine (part_s G _ _).mono ?_
  rintro _ _ _ _ ⟨rfl, rfl, rfl⟩
  simp_arith [fill_n3]
  refine (part_s G _ _).mono ?_
  rintro _ _ _ _ ⟨rfl, rfl, rfl⟩
  simp_arith [fill_n3, aug4]
  refine wp_lcBxf (X := Cell) (xs := [pA g (r - 1) q, pA g (r + 1) q, pA g r (q - 1), pA g r (q + 1)]) (h := cD) (fun c => c.map dt) rfl (by decide) cap_4 rfl rfl (fun n x hx => ?_) ?_
  · cases x with
    | none =>
      simp_arith [cD_n, nis_n, isN_n]
      exact ⟨rfl, rfl, rfl⟩
    | some l =>
      simp_arith [cD_s, nis_n, isN_dt]
      exact ⟨rfl, rfl, rfl⟩
  · have hl : (tws [pA g (r - 1) q, pA g (r + 1) q, pA g r (q - 1), pA g r (q + 1)]).length < 64 := Nat.lt_of_le_of_lt (tws_len _) (show 4 < 64 by decide)
    simp_arith [fm_tws, sort_ws hl]
    exact ⟨rfl, rfl, rfl⟩
def bd1 (g : List (List Cell)) (q : List Nat × (Nat × Nat)) : List Pr := (tws [pA g (q.2.1 + 1) q.2.2, pA g q.2.1 (q.2.2 + 1)]).map fun o => (mnL q.1 o, mxL q.1 o)
def bds (g : List (List Cell)) : List Pr := (tw g).flatMap (bd1 g)
noncomputable def bdD (g : List (List Cell)) : D := .tup ((srtP (bds g)).map prD)
theorem bd1_len (g : List (List Cell)) (q : List Nat × (Nat × Nat)) : (bd1 g q).length ≤ 2 := by
  unfold bd1
  rw [List.length_map]
  exact tws_len _
theorem bds_len (g : List (List Cell)) : ∀ ds : List (List Nat × (Nat × Nat)), (ds.flatMap (bd1 g)).length ≤ 2 * ds.length
  | [] => Nat.zero_le _
  | q :: ds => by
    rw [List.flatMap_cons, List.length_append, List.length_cons]
    have := bds_len g ds
    have := bd1_len g q
    omega
theorem map2 (a b : Cell) : [cD a, cD b] = [a, b].map cD := rfl
theorem prD_i (a b : List Nat) : D.tup [dt a, dt b] = prD (a, b) := rfl
theorem fm_1 {α β : Type} (f : α → List β) (a : List α) (x : α) : (a ++ [x]).flatMap f = a.flatMap f ++ f x := by
  rw [List.flatMap_append]
  simp
theorem bordersof_s {S : List Inst} {g : List (List Cell)} (G : Gl g) : FOk fn_borders_of [⟨lndD g, 0, false⟩] S (VaQ (bdD g) S) := by
  unfold fn_borders_of m_borders_of
  rw [f_fn]
  simp_arith []
  refine (spots_s G).mono ?_
  rintro _ _ _ _ ⟨rfl, rfl, rfl⟩
  have h36 := G.tw36
  simp_arith [fill_n1]
  rw [items_ks]
  refine wp_forx (X := List Nat × (Nat × Nat)) (xs := tw g) (h := fun q => D.tup [dt q.1, spV q.2]) (fun rest s => ∃ (done : List (List Nat × (Nat × Nat))) (o2 o3 o4 o5 : Option Slot), tw g = done ++ rest ∧ s = ⟨[some ⟨lndD g, 0, false⟩, some ⟨.lst ((done.flatMap (bd1 g)).map prD), 1, false⟩, o2, o3, o4, o5], S⟩ ∧ pinned o2 = false ∧ pinned o3 = false ∧ pinned o4 = false ∧ pinned o5 = false)
    ⟨[], none, none, none, none, rfl, rfl, rfl, rfl, rfl, rfl⟩ (fun x rest s hI => ?_) (fun s hI => ?_)
  · obtain ⟨done, o2, o3, o4, o5, e, rfl, n2, n3, n4, n5⟩ := hI
    obtain ⟨l, r, q⟩ := x
    have hd : done.length < 36 := by
      rw [e, List.length_append, List.length_cons] at h36
      omega
    simp_arith [spV_e, n2, n3, n4]
    refine (part_s G _ _).mono ?_
    rintro _ _ _ _ ⟨rfl, rfl, rfl⟩
    simp_arith [fill_n3]
    refine (part_s G _ _).mono ?_
    rintro _ _ _ _ ⟨rfl, rfl, rfl⟩
    simp_arith [fill_n3]
    refine wp_forx (X := Cell) (xs := [pA g (r + 1) q, pA g r (q + 1)]) (h := cD) (fun r2 s => ∃ (d2 : List Cell) (o5 : Option Slot), [pA g (r + 1) q, pA g r (q + 1)] = d2 ++ r2 ∧ s = ⟨[some ⟨lndD g, 0, false⟩, some ⟨.lst ((done.flatMap (bd1 g) ++ (tws d2).map fun o => (mnL l o, mxL l o)).map prD), 1, false⟩, some ⟨dt l, 0, false⟩, some ⟨.int (r : Int), 0, false⟩, some ⟨.int (q : Int), 0, false⟩, o5], S⟩ ∧ pinned o5 = false)
      ⟨[], o5, rfl, by rw [show tws [] = [] from rfl, List.map_nil, List.append_nil], n5⟩ (fun x r2 s hI => ?_) (fun s hI => ?_)
    · obtain ⟨d2, o5, e2, rfl, n5⟩ := hI
      cases x with
      | none =>
        simp_arith [n5, cD_n, nis_n, isN_n]
        exact ⟨d2 ++ [none], _, by rw [e2]; simp, by rw [tws_n], rfl⟩
      | some o =>
        have hl2 : d2.length < 2 := by
          have := congrArg List.length e2
          rw [List.length_append, List.length_cons] at this
          simp only [List.length_cons, List.length_nil] at this
          omega
        have hc : ((done.flatMap (bd1 g) ++ (tws d2).map fun o => (mnL l o, mxL l o)).map prD).length < cap := Nat.lt_of_lt_of_le (show _ < 1000 by
          rw [List.length_map, List.length_append, List.length_map]
          have := bds_len g done
          have := tws_len d2
          omega) cap_big
        simp_arith [n5, cD_s, nis_n, isN_dt, min_ws, max_ws, prD_i, app_ok hc]
        have e9 : (done.flatMap (bd1 g) ++ (tws d2).map fun o => (mnL l o, mxL l o)).map prD ++ [prD (mnL l o, mxL l o)] = (done.flatMap (bd1 g) ++ (tws (d2 ++ [some o])).map fun o => (mnL l o, mxL l o)).map prD := by simp [tws_s]
        exact ⟨d2 ++ [some o], _, by rw [e2]; simp, by rw [e9], rfl⟩
    · obtain ⟨d2, o5, e2, rfl, n5⟩ := hI
      rw [List.append_nil] at e2
      exact ⟨done ++ [(l, r, q)], _, _, _, _, by rw [e]; simp, by rw [fm_1, ← e2]; rfl, rfl, rfl, rfl, n5⟩
  · obtain ⟨done, o2, o3, o4, o5, e, rfl, n2, n3, n4, n5⟩ := hI
    rw [List.append_nil] at e
    simp_arith [sortp]
    exact ⟨by unfold bdD bds; rw [e], rfl, rfl⟩
end Mi

set_option Elab.async false
set_option linter.all false
set_option maxRecDepth 100000
set_option maxHeartbeats 1000000
namespace Mi
open PySem L2
local macro_rules | `(tactic| simp_arith [$ls,*]) => `(tactic| simp -implicitDefEqProofs only [w_ins, obF_o, clB_1, w_att, w_meth, w_methK, w_mk, w_mkI, w_mkK, w_mkKI, noneO_n, w_setI, w_fld, ap_get, ap_set, few_0, few_1, few_2, few_3, putI_0, lck_v1, lck_v0, w_ds, w_dsO, w_aug, w_augS, par3_c, w_par3, lenG_l, lenG_t, lenG_r, lenG_d, lenG_s, minG_i, maxG_i, w_frz, w_bnd, w_ret, w_stuck, w_opt, w_vr, w_cn, w_lookV, w_lookS, w_flatV, w_flatS, w_ownV, w_ownS, w_movV, w_movS, w_ifS, w_ifV, w_andT, w_orT, w_notT, w_truM, w_andV, w_orV, w_notV, Sq_nx, Sq_bk, Sq_ct, Sq_rt, w_seq, w_bin, w_uno, w_cmpV, w_cmpT, w_chV, w_chT, w_st, w_rt, w_exM, w_set, w_evN, w_evC, w_flats0, w_flats, w_fzo, w_fzos0, w_fzos, w_blt, w_tup, w_lst, w_stO, w_idx, gt_0, gt_V, gt_S, w_call, w_callO, fill_0, fill_n, fill_s, dfl_0, dfl_c, w_callV, w_callK, fin_rt, fin_nx, pins_0, pins_n, pins_t, w_src, w_srS, srS_l0, srS_l1, srS_t, srS_c, srS_s, srS_d0, srS_d1, srV_l0, srV_l1, srV_t, srV_c, srV_s, srV_d, w_rng1, w_en, on1_c, w_enV, w_enS, enS_t, enS_s, enS_l0, enS_l1, w_prt, prF_i, w_sl, w_sm, sF_s, w_lm, w_lmP, lF_l, w_lmO, lmS_l, w_par, par2_c, w_tupG, tpF_t1, tpF_t2, tpF_t3, tpF_t4, tpF_l2, tpF_l3, w_setsN, w_setsC, w_prsN, w_prsC, w_dct, w_get, dF_d, w_for, tn_nx, tn_ct, tn_bk, tn_rt, w_lc, w_step, atS_s, atT_s, atO_s, Bt_t, Bt_f, Gd_t, z0_0, z0_1, z0_2, z0_s, le1_0, le1_1, fz_0, fz_all, fz_l1, leC_k0, leC_k1, leC_k2, leC_k3, leC_k4, leC_k5, leC_k6, leC_k7, leC_k8, leC_k9, leC_k10, leC_k11, leC_k12, leC_k13, leC_k14, leC_k15, leC_k16, pin_s, pin_n, neq_t, wipe_0, wipe_c, back_0, back_c, unp_0, unp_c, List.getElem?_cons_zero, List.getElem?_cons_succ, List.set_cons_zero, List.set_cons_succ, Bool.not_true, Bool.not_false, Bool.and_true, Bool.true_and, Bool.and_false, List.map_cons, List.map_nil, List.length_cons, List.length_nil, List.take_succ_cons, List.take_zero, List.cons_append, List.nil_append, Option.map_some, List.getD_cons_zero, List.getD_cons_succ, Option.getD_some, Option.getD_none, Nat.reduceAdd, Nat.zero_add, Nat.reduceSub, List.replicate, Nat.add_zero, if_true, if_false, ite_true, ite_false, Bool.false_eq_true, reduceIte, add_i, sub_i, lt_i, gt_i, ge_i, le_i, int_b, int_i, tru_b, tru_i, tru_n, tru_l, tru_t, len_l, len_t, len_r, tup_l, tup_t, is_n, pop0, decide_true, decide_false, Nat.reduceLeDiff, $ls,*])

/-! ### a Land -/
def Ld (g : List (List Cell)) : Inst := ⟨"Land", [("rows", ⟨lndD g, 0, false⟩), ("spots", ⟨.dct (dks spV (tw g)), 0, false⟩)]⟩
theorem Ld_c (g : List (List Cell)) : (Ld g).cls = "Land" := rfl
theorem Ld_rows (g : List (List Cell)) : fldF (Ld g) "rows" = some (lndD g) := by
  unfold fldF Ld
  rw [lk_hit]
  rfl
theorem Ld_spots (g : List (List Cell)) : fldF (Ld g) "spots" = some (.dct (dks spV (tw g))) := by
  unfold fldF Ld
  rw [lk_miss (by decide), lk_hit]
  rfl
theorem Ld_no (g : List (List Cell)) {m : Str} (h1 : (m == ("rows" : Str)) = false) (h2 : (m == ("spots" : Str)) = false) : noF (Ld g) m = true := by
  unfold noF Ld
  rw [lk_miss h1, lk_miss h2]
  rfl
theorem Ld_m1 (g : List (List Cell)) : noF (Ld g) "has_village" = true := Ld_no g (by decide) (by decide)
theorem Ld_m2 (g : List (List Cell)) : noF (Ld g) "check_village" = true := Ld_no g (by decide) (by decide)
theorem Ld_m3 (g : List (List Cell)) : noF (Ld g) "spot" = true := Ld_no g (by decide) (by decide)
theorem Ld_m4 (g : List (List Cell)) : noF (Ld g) "names" = true := Ld_no g (by decide) (by decide)
theorem Ld_m5 (g : List (List Cell)) : noF (Ld g) "neighbours" = true := Ld_no g (by decide) (by decide)
theorem Ld_m6 (g : List (List Cell)) : noF (Ld g) "borders" = true := Ld_no g (by decide) (by decide)
theorem put_spots (d : D) (x : Slot) : putI ("spots" : Str) d [(("rows" : Str), x)] = [(("rows" : Str), x), (("spots" : Str), ⟨d, 0, false⟩)] := by
  show (if ("rows" : Str) = "spots" then _ else (("rows" : Str), x) :: putI ("spots" : Str) d []) = _
  rw [if_neg (by decide)]
  rfl
def InQ (S : List Inst) (i : Inst) (d : D) (k : Nat) (outs : List (Option Slot)) (S' : List Inst) : Prop := d = .non ∧ k = 0 ∧ S' = S ++ [i]
theorem frz_v (d : D) : frzO (.val d 0) = .val d 0 := by cases d <;> rfl
theorem frz_s (i : Nat) : frzO (.slot i) = .slot i := rfl
theorem Ld_mk (g : List (List Cell)) : (⟨"Land", [("rows", ⟨lndD g, 0, false⟩), ("spots", ⟨.dct (dks spV (tw g)), 0, false⟩)]⟩ : Inst) = Ld g := rfl
theorem linit_s {S : List Inst} {g : List (List Cell)} (G : Gl g) : FOk fn_Land_init [⟨.obj S.length, 0, false⟩, ⟨lndD g, 0, false⟩] (S ++ [⟨"Land", []⟩]) (InQ S (Ld g)) := by
  unfold fn_Land_init m_Land_init
  rw [f_fn]
  simp_arith []
  refine (arerows_s G).mono ?_
  rintro _ _ _ _ ⟨rfl, rfl, rfl⟩
  simp_arith [fill_n1, nis_n, isN_n, w_frz, frz_s]
  refine (spots_s G).mono ?_
  rintro _ _ _ _ ⟨rfl, rfl, rfl⟩
  simp_arith [fill_n1, frzO_d, put_spots, Ld_mk]
  exact ⟨rfl, rfl, rfl⟩
section
variable {S : List Inst} {n : Nat} {g : List (List Cell)} (h : S[n]? = some (Ld g)) (G : Gl g)
include h
theorem hasv_s {l : List Nat} : FOk fn_Land_has_village [⟨.obj n, 0, false⟩, ⟨dt l, 0, false⟩] S (BlQ (decide (l ∈ (tw g).map (·.1))) S) := by
  unfold fn_Land_has_village m_Land_has_village
  rw [f_fn]
  simp_arith [isi_d, h, Ld_c, Ld_spots, in_ks]
  exact ⟨rfl, rfl, rfl⟩
theorem chkv_s {l : List Nat} (hl : l ∈ (tw g).map (·.1)) : FOk fn_Land_check_village [⟨.obj n, 0, false⟩, ⟨dt l, 0, false⟩] S (NoQ S) := by
  unfold fn_Land_check_village m_Land_check_village
  rw [f_fn]
  simp_arith [h, Ld_c, Ld_m1]
  refine (hasv_s h).mono ?_
  rintro _ _ _ _ ⟨rfl, rfl, rfl⟩
  simp_arith [fill_n2, decide_eq_true hl]
  exact ⟨rfl, rfl, rfl⟩
theorem lk_in {l : List Nat} {p : Nat × Nat} (hp : (tw g).lookup l = some p) : l ∈ (tw g).map (·.1) := by
  have e := lkp_mem (ws := tw g) (x := l)
  rw [hp] at e
  exact of_decide_eq_true e.symm
theorem spot_s {l : List Nat} {p : Nat × Nat} (hp : (tw g).lookup l = some p) : FOk fn_Land_spot [⟨.obj n, 0, false⟩, ⟨dt l, 0, false⟩] S (VaQ (spV p) S) := by
  unfold fn_Land_spot m_Land_spot
  rw [f_fn]
  simp_arith [h, Ld_c, Ld_m2]
  refine (chkv_s h (lk_in h hp)).mono ?_
  rintro _ _ _ _ ⟨rfl, rfl, rfl⟩
  simp_arith [fill_n2, h, Ld_c, Ld_spots, ix_ks hp]
  exact ⟨rfl, rfl, rfl⟩
include G
theorem lnames_s : FOk fn_Land_names [⟨.obj n, 0, false⟩] S (VaQ (nmD g) S) := by
  unfold fn_Land_names m_Land_names
  rw [f_fn]
  simp_arith [h, Ld_c, Ld_rows]
  refine (namesof_s G).mono ?_
  rintro _ _ _ _ ⟨rfl, rfl, rfl⟩
  simp_arith [fill_n1]
  exact ⟨rfl, rfl, rfl⟩
theorem lnb_s {l : List Nat} {r q : Nat} (hp : (tw g).lookup l = some (r, q)) : FOk fn_Land_neighbours [⟨.obj n, 0, false⟩, ⟨dt l, 0, false⟩] S (VaQ (nbD g r q) S) := by
  unfold fn_Land_neighbours m_Land_neighbours
  rw [f_fn]
  simp_arith [h, Ld_c, Ld_m2]
  refine (chkv_s h (lk_in h hp)).mono ?_
  rintro _ _ _ _ ⟨rfl, rfl, rfl⟩
  simp_arith [fill_n2, h, Ld_c, Ld_rows]
  refine (nbof_s G hp).mono ?_
  rintro _ _ _ _ ⟨rfl, rfl, rfl⟩
  simp_arith [fill_n2]
  exact ⟨rfl, rfl, rfl⟩
theorem lbd_s : FOk fn_Land_borders [⟨.obj n, 0, false⟩] S (VaQ (bdD g) S) := by
  unfold fn_Land_borders m_Land_borders
  rw [f_fn]
  simp_arith [h, Ld_c, Ld_rows]
  refine (bordersof_s G).mono ?_
  rintro _ _ _ _ ⟨rfl, rfl, rfl⟩
  simp_arith [fill_n1]
  exact ⟨rfl, rfl, rfl⟩
end
end Mi

set_option Elab.async false
set_option linter.all false
set_option maxRecDepth 100000
set_option maxHeartbeats 1000000
namespace Mi
open PySem L2
local macro_rules | `(tactic| simp_arith [$ls,*]) => `(tactic| simp -implicitDefEqProofs only [w_ins, obF_o, clB_1, w_att, w_meth, w_methK, w_mk, w_mkI, w_mkK, w_mkKI, noneO_n, w_setI, w_fld, ap_get, ap_set, few_0, few_1, few_2, few_3, putI_0, lck_v1, lck_v0, w_ds, w_dsO, w_aug, w_augS, par3_c, w_par3, lenG_l, lenG_t, lenG_r, lenG_d, lenG_s, minG_i, maxG_i, w_frz, w_bnd, w_ret, w_stuck, w_opt, w_vr, w_cn, w_lookV, w_lookS, w_flatV, w_flatS, w_ownV, w_ownS, w_movV, w_movS, w_ifS, w_ifV, w_andT, w_orT, w_notT, w_truM, w_andV, w_orV, w_notV, Sq_nx, Sq_bk, Sq_ct, Sq_rt, w_seq, w_bin, w_uno, w_cmpV, w_cmpT, w_chV, w_chT, w_st, w_rt, w_exM, w_set, w_evN, w_evC, w_flats0, w_flats, w_fzo, w_fzos0, w_fzos, w_blt, w_tup, w_lst, w_stO, w_idx, gt_0, gt_V, gt_S, w_call, w_callO, fill_0, fill_n, fill_s, dfl_0, dfl_c, w_callV, w_callK, fin_rt, fin_nx, pins_0, pins_n, pins_t, w_src, w_srS, srS_l0, srS_l1, srS_t, srS_c, srS_s, srS_d0, srS_d1, srV_l0, srV_l1, srV_t, srV_c, srV_s, srV_d, w_rng1, w_en, on1_c, w_enV, w_enS, enS_t, enS_s, enS_l0, enS_l1, w_prt, prF_i, w_sl, w_sm, sF_s, w_lm, w_lmP, lF_l, w_lmO, lmS_l, w_par, par2_c, w_tupG, tpF_t1, tpF_t2, tpF_t3, tpF_t4, tpF_l2, tpF_l3, w_setsN, w_setsC, w_prsN, w_prsC, w_dct, w_get, dF_d, w_for, tn_nx, tn_ct, tn_bk, tn_rt, w_lc, w_step, atS_s, atT_s, atO_s, Bt_t, Bt_f, Gd_t, z0_0, z0_1, z0_2, z0_s, le1_0, le1_1, fz_0, fz_all, fz_l1, leC_k0, leC_k1, leC_k2, leC_k3, leC_k4, leC_k5, leC_k6, leC_k7, leC_k8, leC_k9, leC_k10, leC_k11, leC_k12, leC_k13, leC_k14, leC_k15, leC_k16, pin_s, pin_n, neq_t, wipe_0, wipe_c, back_0, back_c, unp_0, unp_c, List.getElem?_cons_zero, List.getElem?_cons_succ, List.set_cons_zero, List.set_cons_succ, Bool.not_true, Bool.not_false, Bool.and_true, Bool.true_and, Bool.and_false, List.map_cons, List.map_nil, List.length_cons, List.length_nil, List.take_succ_cons, List.take_zero, List.cons_append, List.nil_append, Option.map_some, List.getD_cons_zero, List.getD_cons_succ, Option.getD_some, Option.getD_none, Nat.reduceAdd, Nat.zero_add, Nat.reduceSub, List.replicate, Nat.add_zero, if_true, if_false, ite_true, ite_false, Bool.false_eq_true, reduceIte, add_i, sub_i, lt_i, gt_i, ge_i, le_i, int_b, int_i, tru_b, tru_i, tru_n, tru_l, tru_t, len_l, len_t, len_r, tup_l, tup_t, is_n, pop0, decide_true, decide_false, Nat.reduceLeDiff, $ls,*])

/-! ### the law's own telling of lands -/
theorem cap_40 : 40 ≤ cap := by decide
theorem Gl.row6 {g : List (List Cell)} (G : Gl g) {r : List Cell} (h : r ∈ g) : r.length ≤ 6 := by
  obtain ⟨w, _, h6, hw⟩ := G.w
  rw [hw r h]
  exact h6
theorem ext_ok {ds es : List D} (h : ds.length + es.length ≤ cap) : extF ds [.lst es] = some (ds ++ es, .non) := if_pos h
theorem lawnames_s {S : List Inst} {g : List (List Cell)} (G : Gl g) : FOk fn__law_names [⟨lndD g, 0, false⟩] S (FrsQ (.lst ((srtW (tws g.flatten)).map dt)) S) := by
  unfold fn__law_names m__law_names
  rw [f_fn]
  simp_arith [srS_ld]
  refine wp_forx (X := List Cell) (xs := g) (h := rwD) (fun rest s => ∃ (done : List (List Cell)) (o2 : Option Slot), g = done ++ rest ∧ s = ⟨[some ⟨lndD g, 0, false⟩, some ⟨.lst ((tws done.flatten).map dt), 1, false⟩, o2, none], S⟩ ∧ pinned o2 = false)
    ⟨[], none, rfl, rfl, rfl⟩ (fun x rest s hI => ?_) (fun s hI => ?_)
  · obtain ⟨done, o2, e, rfl, n2⟩ := hI
    have hx : x.length ≤ 6 := G.row6 (by rw [e]; simp)
    simp_arith [n2, srS_rw]
    refine wp_lcxf (X := Cell) (xs := x) (h := cD) (fun c => c.map dt) (Nat.le_trans hx (by decide)) rfl (fun c hc => ?_) ?_
    · cases c with
      | none =>
        simp_arith [cD_n, nis_n, isN_n]
        exact ⟨rfl, rfl, rfl⟩
      | some l =>
        simp_arith [cD_s, nis_n, isN_dt]
        exact ⟨rfl, rfl, rfl⟩
    · have hl : ((tws done.flatten).map dt).length + ((tws x).map dt).length ≤ cap := by
        rw [List.length_map, List.length_map]
        have h1 := tws_len done.flatten
        have h2 := tws_len x
        have h3 := G.cells
        rw [e, List.flatten_append, List.length_append] at h3
        exact Nat.le_trans (show _ ≤ 42 by omega) (by decide)
      simp_arith [fm_tws, ext_ok hl]
      have e9 : (tws done.flatten).map dt ++ (tws x).map dt = (tws (done ++ [x]).flatten).map dt := by
        rw [← List.map_append, ← tws_app]
        congr 2
        simp
      exact ⟨done ++ [x], _, by rw [e]; simp, by rw [e9], rfl⟩
  · obtain ⟨done, o2, e, rfl, n2⟩ := hI
    rw [List.append_nil] at e
    subst e
    have h : (tws g.flatten).length < 64 := Nat.lt_of_le_of_lt (Nat.le_trans (tws_len _) G.cells) (by decide)
    simp_arith [sort_ws h]
    exact ⟨rfl, rfl, rfl⟩
/-! what is around -/
def offD (p : Int × Int) : D := .tup [.int p.1, .int p.2]
theorem off_e (a b : Int) : offD (a, b) = D.tup [.int a, .int b] := rfl
def ofs4 : List (Int × Int) := [(-1, 0), (1, 0), (0, -1), (0, 1)]
theorem nbs_ofs (g : List (List Cell)) (i j : Int) : ofs4.map (fun p => pA g (i + p.1) (j + p.2)) = nbs g i j := by
  unfold ofs4 nbs
  simp only [List.map_cons, List.map_nil]
  rw [show i + (0 : Int) = i by omega, show j + (0 : Int) = j by omega, show i + -1 = i - 1 by omega, show j + -1 = j - 1 by omega]
theorem pA_in {g : List (List Cell)} (G : Gl g) {i j : Int} (h1 : 0 ≤ i) (h2 : i < (g.length : Int)) (h3 : 0 ≤ j) (h4 : j < (wd g : Int)) : ∃ r, g[i.toNat]? = some r ∧ r.length = wd g ∧ r[j.toNat]? = some (pA g i j) ∧ ixF (lndD g) (.int i) = some (rwD r, 0) ∧ ixF (rwD r) (.int j) = some (cD (pA g i j), 0) := by
  have hi : i.toNat < g.length := by omega
  have ei : g[i.toNat]? = some g[i.toNat] := List.getElem?_eq_getElem hi
  have hw := G.wdr _ (List.getElem_mem hi)
  have hj : j.toNat < g[i.toNat].length := by omega
  have ej : g[i.toNat][j.toNat]? = some g[i.toNat][j.toNat] := List.getElem?_eq_getElem hj
  have ep : pA g i j = g[i.toNat][j.toNat] := by
    unfold pA
    rw [if_pos ⟨h1, h2, h3, h4⟩, ei]
    show ((g[i.toNat][j.toNat]?).getD none) = _
    rw [ej]
    rfl
  have x1 := ix_ld ei
  have x2 := ix_rw ej
  rw [show ((i.toNat : Nat) : Int) = i by omega] at x1
  rw [show ((j.toNat : Nat) : Int) = j by omega] at x2
  rw [ep]
  exact ⟨_, ei, hw, ej, x1, x2⟩
theorem pA_out {g : List (List Cell)} {i j : Int} (h : ¬ (0 ≤ i ∧ i < (g.length : Int) ∧ 0 ≤ j ∧ j < (wd g : Int))) : pA g i j = none := if_neg h
theorem around_s {S : List Inst} {g : List (List Cell)} (G : Gl g) {i j : Int} : FOk fn__law_around [⟨lndD g, 0, false⟩, ⟨.int i, 0, false⟩, ⟨.int j, 0, false⟩] S (VaQ (nbD g i j) S) := by
  unfold fn__law_around m__law_around
  rw [f_fn]
  obtain ⟨r0, e0, hr0⟩ := G.r0
  have i0 : ixF (lndD g) (.int 0) = some (rwD r0, 0) := ix_ld e0
  have hw0 := G.wdr r0 hr0
  simp_arith [neg_i]
  refine wp_forx (X := Int × Int) (xs := ofs4) (h := offD) (fun rest s => ∃ (done : List (Int × Int)) (p : List Cell) (o4 o5 o6 : Option Slot), ofs4 = done ++ rest ∧ tws p = tws (done.map fun q => pA g (i + q.1) (j + q.2)) ∧ p.length ≤ done.length ∧ s = ⟨[some ⟨lndD g, 0, false⟩, some ⟨.int i, 0, false⟩, some ⟨.int j, 0, false⟩, some ⟨.lst (p.map cD), 1, false⟩, o4, o5, o6], S⟩ ∧ pinned o4 = false ∧ pinned o5 = false ∧ o6 = none)
    ⟨[], [], none, none, none, rfl, rfl, Nat.le_refl _, rfl, rfl, rfl, rfl⟩ (fun x rest s hI => ?_) (fun s hI => ?_)
  · obtain ⟨done, p, o4, o5, o6, e, hp, hpl, rfl, n4, n5, rfl⟩ := hI
    obtain ⟨a, b⟩ := x
    have hd : done.length < 4 := by
      have := congrArg List.length e
      rw [List.length_append, List.length_cons] at this
      have h4 : ofs4.length = 4 := rfl
      omega
    have hc : (p.map cD).length < cap := Nat.lt_of_lt_of_le (show _ < 1000 by rw [List.length_map]; omega) cap_big
    by_cases h : 0 ≤ i + a ∧ i + a < (g.length : Int) ∧ 0 ≤ j + b ∧ j + b < (wd g : Int)
    · obtain ⟨h1, h2, h3, h4⟩ := h
      obtain ⟨r, _, _, _, x1, x2⟩ := pA_in G h1 h2 h3 h4
      simp_arith [off_e, n4, n5, len_ld, i0, len_rw, hw0, show decide (i + a < 0) = false from decide_eq_false (by omega), decide_eq_true h2, show decide (j + b < 0) = false from decide_eq_false (by omega), decide_eq_true h4, x1, x2, app_ok hc]
      have e9 : p.map cD ++ [cD (pA g (i + a) (j + b))] = (p ++ [pA g (i + a) (j + b)]).map cD := by simp
      exact ⟨done ++ [(a, b)], p ++ [pA g (i + a) (j + b)], _, _, _, by rw [e]; simp, by rw [tws_app, hp, List.map_append, tws_app]; rfl, by simp only [List.length_append, List.length_singleton]; omega, by rw [e9], rfl, rfl, rfl⟩
    · have hn := pA_out h
      have done_ : ∃ (done' : List (Int × Int)) (p' : List Cell) (o4' o5' o6' : Option Slot), ofs4 = done' ++ rest ∧ tws p' = tws (done'.map fun q => pA g (i + q.1) (j + q.2)) ∧ p'.length ≤ done'.length ∧ (⟨[some ⟨lndD g, 0, false⟩, some ⟨.int i, 0, false⟩, some ⟨.int j, 0, false⟩, some ⟨.lst (p.map cD), 1, false⟩, some ⟨.int a, 0, false⟩, some ⟨.int b, 0, false⟩, none], S⟩ : Sx) = ⟨[some ⟨lndD g, 0, false⟩, some ⟨.int i, 0, false⟩, some ⟨.int j, 0, false⟩, some ⟨.lst (p'.map cD), 1, false⟩, o4', o5', o6'], S⟩ ∧ pinned o4' = false ∧ pinned o5' = false ∧ o6' = none := by
        refine ⟨done ++ [(a, b)], p, _, _, _, by rw [e]; simp, ?_, by simp only [List.length_append, List.length_singleton]; omega, rfl, rfl, rfl, rfl⟩
        rw [List.map_append, tws_app, hp]
        simp only [List.map_cons, List.map_nil, hn]
        simp [tws]
      by_cases h1 : i + a < 0
      · simp_arith [off_e, n4, n5, len_ld, i0, len_rw, hw0, decide_eq_true h1]
        exact done_
      · by_cases h2 : i + a < (g.length : Int)
        · by_cases h3 : j + b < 0
          · simp_arith [off_e, n4, n5, len_ld, i0, len_rw, hw0, decide_eq_false h1, decide_eq_true h2, decide_eq_true h3]
            exact done_
          · have h4 : ¬ j + b < (wd g : Int) := fun h4 => h ⟨by omega, h2, by omega, h4⟩
            simp_arith [off_e, n4, n5, len_ld, i0, len_rw, hw0, decide_eq_false h1, decide_eq_true h2, decide_eq_false h3, decide_eq_false h4]
            exact done_
        · simp_arith [off_e, n4, n5, len_ld, i0, len_rw, hw0, decide_eq_false h1, decide_eq_false h2]
          exact done_
  · obtain ⟨done, p, o4, o5, o6, e, hp, hpl, rfl, n4, n5, rfl⟩ := hI
    rw [List.append_nil] at e
    subst e
    rw [nbs_ofs] at hp
    have hl : (tws p).length < 64 := Nat.lt_of_le_of_lt (tws_len _) (Nat.lt_of_le_of_lt hpl (by decide))
    simp_arith []
    refine wp_lcBxf (X := Cell) (xs := p) (h := cD) (fun c => c.map dt) rfl (by decide) (Nat.le_trans hpl (by decide)) rfl rfl (fun n x hx => ?_) ?_
    · cases x with
      | none =>
        simp_arith [cD_n, nis_n, isN_n]
        exact ⟨rfl, rfl, rfl⟩
      | some l =>
        simp_arith [cD_s, nis_n, isN_dt]
        exact ⟨rfl, rfl, rfl⟩
    · simp_arith [fm_tws, sort_ws hl]
      exact ⟨by unfold nbD; rw [hp], rfl, rfl⟩
end Mi

set_option Elab.async false
set_option linter.all false
set_option maxRecDepth 100000
set_option maxHeartbeats 1000000
namespace Mi
open PySem L2
local macro_rules | `(tactic| simp_arith [$ls,*]) => `(tactic| simp -implicitDefEqProofs only [w_ins, obF_o, clB_1, w_att, w_meth, w_methK, w_mk, w_mkI, w_mkK, w_mkKI, noneO_n, w_setI, w_fld, ap_get, ap_set, few_0, few_1, few_2, few_3, putI_0, lck_v1, lck_v0, w_ds, w_dsO, w_aug, w_augS, par3_c, w_par3, lenG_l, lenG_t, lenG_r, lenG_d, lenG_s, minG_i, maxG_i, w_frz, w_bnd, w_ret, w_stuck, w_opt, w_vr, w_cn, w_lookV, w_lookS, w_flatV, w_flatS, w_ownV, w_ownS, w_movV, w_movS, w_ifS, w_ifV, w_andT, w_orT, w_notT, w_truM, w_andV, w_orV, w_notV, Sq_nx, Sq_bk, Sq_ct, Sq_rt, w_seq, w_bin, w_uno, w_cmpV, w_cmpT, w_chV, w_chT, w_st, w_rt, w_exM, w_set, w_evN, w_evC, w_flats0, w_flats, w_fzo, w_fzos0, w_fzos, w_blt, w_tup, w_lst, w_stO, w_idx, gt_0, gt_V, gt_S, w_call, w_callO, fill_0, fill_n, fill_s, dfl_0, dfl_c, w_callV, w_callK, fin_rt, fin_nx, pins_0, pins_n, pins_t, w_src, w_srS, srS_l0, srS_l1, srS_t, srS_c, srS_s, srS_d0, srS_d1, srV_l0, srV_l1, srV_t, srV_c, srV_s, srV_d, w_rng1, w_en, on1_c, w_enV, w_enS, enS_t, enS_s, enS_l0, enS_l1, w_prt, prF_i, w_sl, w_sm, sF_s, w_lm, w_lmP, lF_l, w_lmO, lmS_l, w_par, par2_c, w_tupG, tpF_t1, tpF_t2, tpF_t3, tpF_t4, tpF_l2, tpF_l3, w_setsN, w_setsC, w_prsN, w_prsC, w_dct, w_get, dF_d, w_for, tn_nx, tn_ct, tn_bk, tn_rt, w_lc, w_step, atS_s, atT_s, atO_s, Bt_t, Bt_f, Gd_t, z0_0, z0_1, z0_2, z0_s, le1_0, le1_1, fz_0, fz_all, fz_l1, leC_k0, leC_k1, leC_k2, leC_k3, leC_k4, leC_k5, leC_k6, leC_k7, leC_k8, leC_k9, leC_k10, leC_k11, leC_k12, leC_k13, leC_k14, leC_k15, leC_k16, pin_s, pin_n, neq_t, wipe_0, wipe_c, back_0, back_c, unp_0, unp_c, List.getElem?_cons_zero, List.getElem?_cons_succ, List.set_cons_zero, List.set_cons_succ, Bool.not_true, Bool.not_false, Bool.and_true, Bool.true_and, Bool.and_false, List.map_cons, List.map_nil, List.length_cons, List.length_nil, List.take_succ_cons, List.take_zero, List.cons_append, List.nil_append, Option.map_some, List.getD_cons_zero, List.getD_cons_succ, Option.getD_some, Option.getD_none, Nat.reduceAdd, Nat.zero_add, Nat.reduceSub, List.replicate, Nat.add_zero, if_true, if_false, ite_true, ite_false, Bool.false_eq_true, reduceIte, add_i, sub_i, lt_i, gt_i, ge_i, le_i, int_b, int_i, tru_b, tru_i, tru_n, tru_l, tru_t, len_l, len_t, len_r, tup_l, tup_t, is_n, pop0, decide_true, decide_false, Nat.reduceLeDiff, $ls,*])

/-! ### the law's own telling of borders -/
theorem zt_1 {α : Type} {l : List α} {i : Nat} {x : α} (h : l[i]? = some x) : l.zipIdx.take (i + 1) = l.zipIdx.take i ++ [(x, i)] := by
  rw [List.take_succ, List.getElem?_zipIdx, h]
  simp
theorem zt_n {α : Type} (l : List α) {n : Nat} (h : n = l.length) : l.zipIdx.take n = l.zipIdx := by
  rw [List.take_of_length_le (by rw [List.length_zipIdx, h]; exact Nat.le_refl _)]
theorem nin_nn (b : Cell) : ninB .non (.tup [cD none, cD b]) = some false := by cases b <;> rfl
theorem nin_sn (a : List Nat) : ninB .non (.tup [dt a, cD none]) = some false := rfl
theorem nin_ss (a b : List Nat) : ninB .non (.tup [dt a, dt b]) = some true := rfl
theorem nin_pr (a b : List Nat) : ninB .non (prD (a, b)) = some true := rfl
theorem min_pr (a b : List Nat) : minG [prD (a, b)] = some (dt (mnL a b), 0) := min_ws a b
theorem max_pr (a b : List Nat) : maxG [prD (a, b)] = some (dt (mxL a b), 0) := max_ws a b
def of2 : List (Int × Int) := [(1, 0), (0, 1)]
/-- what a place tells of -/
def bdc (g : List (List Cell)) (i j : Nat) (os : List (Int × Int)) : List Pr := match pA g i j with
  | none => []
  | some l => (tws (os.map fun o => pA g (i + o.1) (j + o.2))).map fun o => (mnL l o, mxL l o)
theorem bdc_n {g : List (List Cell)} {i j : Nat} (h : pA g i j = none) (os : List (Int × Int)) : bdc g i j os = [] := by
  unfold bdc
  rw [h]
theorem bdc_s {g : List (List Cell)} {i j : Nat} {l : List Nat} (h : pA g i j = some l) (os : List (Int × Int)) : bdc g i j os = (tws (os.map fun o => pA g (i + o.1) (j + o.2))).map fun o => (mnL l o, mxL l o) := by
  unfold bdc
  rw [h]
theorem bdc_0 (g : List (List Cell)) (i j : Nat) : bdc g i j [] = [] := by
  unfold bdc
  cases pA g i j <;> rfl
theorem bdc_len (g : List (List Cell)) (i j : Nat) (os : List (Int × Int)) : (bdc g i j os).length ≤ os.length := by
  unfold bdc
  cases pA g i j with
  | none => exact Nat.zero_le _
  | some l =>
    show ((tws _).map _).length ≤ _
    rw [List.length_map]
    refine Nat.le_trans (tws_len _) ?_
    rw [List.length_map]
    exact Nat.le_refl _
theorem bdc_1n {g : List (List Cell)} {i j : Nat} {os : List (Int × Int)} {a b : Int} (h : pA g (i + a) (j + b) = none) : bdc g i j (os ++ [(a, b)]) = bdc g i j os := by
  unfold bdc
  cases pA g i j with
  | none => rfl
  | some l =>
    show (tws ((os ++ [(a, b)]).map _)).map _ = _
    rw [List.map_append, List.map_cons, List.map_nil]
    dsimp only
    rw [h, tws_n]
theorem bdc_1s {g : List (List Cell)} {i j : Nat} {os : List (Int × Int)} {a b : Int} {l o : List Nat} (h0 : pA g i j = some l) (h : pA g (i + a) (j + b) = some o) : bdc g i j (os ++ [(a, b)]) = bdc g i j os ++ [(mnL l o, mxL l o)] := by
  rw [bdc_s h0, bdc_s h0]
  rw [List.map_append, List.map_cons, List.map_nil]
  dsimp only
  rw [h, tws_s, List.map_append]
  rfl
theorem bdc_2n {g : List (List Cell)} {i j : Nat} (h : pA g i j = none) : bdc g i j of2 = [] := bdc_n h _
theorem bdc_2s {g : List (List Cell)} {i j : Nat} {l : List Nat} (h : pA g i j = some l) : bdc g i j of2 = bd1 g (l, (i, j)) := by
  rw [bdc_s h]
  unfold bd1 of2
  simp only [List.map_cons, List.map_nil]
  rw [show (i : Int) + (0 : Int) = i by omega, show (j : Int) + (0 : Int) = j by omega]
theorem pA_at {g : List (List Cell)} (G : Gl g) {i j : Nat} {row : List Cell} (hr : g[i]? = some row) (hj : j < wd g) : row[j]? = some (pA g i j) := by
  have hi : i < g.length := (List.getElem?_eq_some_iff.mp hr).1
  obtain ⟨r, e, _, e2, _, _⟩ := pA_in G (i := i) (j := j) (by omega) (by omega) (by omega) (by omega)
  rw [Int.toNat_natCast, hr] at e
  injection e with e
  subst e
  rw [Int.toNat_natCast] at e2
  exact e2
theorem twt_1 {g : List (List Cell)} (G : Gl g) {i j : Nat} {row : List Cell} (hr : g[i]? = some row) (hj : j < wd g) (A : List (List Nat × (Nat × Nat))) : ((A ++ twR i (row.zipIdx.take (j + 1))).flatMap (bd1 g)) = ((A ++ twR i (row.zipIdx.take j)).flatMap (bd1 g)) ++ bdc g i j of2 := by
  rw [zt_1 (pA_at G hr hj)]
  cases h : pA g i j with
  | none => rw [twR_n, bdc_2n h, List.append_nil]
  | some l => rw [twR_s, ← List.append_assoc, fm_1, bdc_2s h]
theorem twt_0 {g : List (List Cell)} {i : Nat} : twL (g.zipIdx.take 0) = [] := by rw [List.take_zero]; rfl
theorem twr_0 {row : List Cell} {i : Nat} (A : List (List Nat × (Nat × Nat))) : A ++ twR i (row.zipIdx.take 0) = A := by
  rw [List.take_zero]
  exact List.append_nil _
theorem twt_r {g : List (List Cell)} {i : Nat} {row : List Cell} (hr : g[i]? = some row) : twL (g.zipIdx.take (i + 1)) = twL (g.zipIdx.take i) ++ twR i row.zipIdx := by
  rw [zt_1 hr, twL_1]
def bdp (g : List (List Cell)) (i j : Nat) (row : List Cell) : List Pr := (twL (g.zipIdx.take i) ++ twR i (row.zipIdx.take j)).flatMap (bd1 g)
theorem tw_pre {g : List (List Cell)} {i j : Nat} {row : List Cell} (hr : g[i]? = some row) : ∃ rest, tw g = (twL (g.zipIdx.take i) ++ twR i (row.zipIdx.take j)) ++ rest := by
  have e1 : twL g.zipIdx = twL (g.zipIdx.take (i + 1)) ++ twL (g.zipIdx.drop (i + 1)) := by rw [← twL_app, List.take_append_drop]
  have e2 : twR i row.zipIdx = twR i (row.zipIdx.take j) ++ twR i (row.zipIdx.drop j) := by rw [← twR_app, List.take_append_drop]
  refine ⟨twR i (row.zipIdx.drop j) ++ twL (g.zipIdx.drop (i + 1)), ?_⟩
  unfold tw
  rw [e1, twt_r hr, e2]
  simp only [List.append_assoc]
theorem bdp_len {g : List (List Cell)} (G : Gl g) {i j : Nat} {row : List Cell} (hr : g[i]? = some row) : (bdp g i j row).length ≤ 72 := by
  unfold bdp
  refine Nat.le_trans (bds_len _ _) ?_
  obtain ⟨rest, e⟩ := tw_pre (j := j) hr
  have := G.tw36
  rw [e, List.length_append] at this
  omega
theorem beside_s {S : List Inst} {g : List (List Cell)} (G : Gl g) : FOk fn__law_beside [⟨lndD g, 0, false⟩] S (FrsQ (.lst ((srtP (bds g)).map prD)) S) := by
  unfold fn__law_beside m__law_beside
  rw [f_fn]
  have h6 := G.h6
  have hw16 := G.wd16
  simp_arith [len_ld, r1_map (show g.length < 1000000000 by omega)]
  refine wp_forx (X := Nat) (xs := List.range g.length) (h := fun i : Nat => D.int (i : Int)) (fun rest s => ∃ (k : Nat) (o2 o3 o4 o5 o6 : Option Slot), rest = (List.range g.length).drop k ∧ k ≤ g.length ∧ s = ⟨[some ⟨lndD g, 0, false⟩, some ⟨.lst (((twL (g.zipIdx.take k)).flatMap (bd1 g)).map prD), 1, false⟩, o2, o3, o4, o5, o6], S⟩ ∧ pinned o2 = false ∧ pinned o3 = false ∧ pinned o4 = false ∧ pinned o5 = false ∧ pinned o6 = false)
    ⟨0, none, none, none, none, none, rfl, Nat.zero_le _, rfl, rfl, rfl, rfl, rfl, rfl⟩ (fun x rest s hI => ?_) (fun s hI => ?_)
  · obtain ⟨k, o2, o3, o4, o5, o6, hr, hk, rfl, n2, n3, n4, n5, n6⟩ := hI
    obtain ⟨rfl, hr', hlt⟩ := rdc hr
    have ei : g[x]? = some g[x] := List.getElem?_eq_getElem hlt
    generalize hrow : g[x] = row at ei
    have hrl : row.length = wd g := G.wdr _ (List.mem_of_getElem? ei)
    have hix := ix_ld ei
    simp_arith [n2, n3, hix, len_rw, hrl, r1_map (show wd g < 1000000000 by omega)]
    refine wp_forx (X := Nat) (xs := List.range (wd g)) (h := fun i : Nat => D.int (i : Int)) (fun rest s => ∃ (j : Nat) (o3 o4 o5 o6 : Option Slot), rest = (List.range (wd g)).drop j ∧ j ≤ wd g ∧ s = ⟨[some ⟨lndD g, 0, false⟩, some ⟨.lst ((bdp g x j row).map prD), 1, false⟩, some ⟨.int (x : Int), 0, false⟩, o3, o4, o5, o6], S⟩ ∧ pinned o3 = false ∧ pinned o4 = false ∧ pinned o5 = false ∧ pinned o6 = false)
      ⟨0, o3, o4, o5, o6, rfl, Nat.zero_le _, by unfold bdp; rw [twr_0], n3, n4, n5, n6⟩ (fun y rest s hI => ?_) (fun s hI => ?_)
    · obtain ⟨j, o3, o4, o5, o6, hr, hj, rfl, n3, n4, n5, n6⟩ := hI
      obtain ⟨rfl, hr'', hlt2⟩ := rdc hr
      have hbl := bdp_len G (j := y) ei
      have ej := ix_rw (pA_at G ei hlt2)
      simp_arith [n3, n4, n5]
      refine wp_forx (X := Int × Int) (xs := of2) (h := offD) (fun rest s => ∃ (done : List (Int × Int)) (o4 o5 o6 : Option Slot), of2 = done ++ rest ∧ s = ⟨[some ⟨lndD g, 0, false⟩, some ⟨.lst ((bdp g x y row ++ bdc g x y done).map prD), 1, false⟩, some ⟨.int (x : Int), 0, false⟩, some ⟨.int (y : Int), 0, false⟩, o4, o5, o6], S⟩ ∧ pinned o4 = false ∧ pinned o5 = false ∧ pinned o6 = false)
        ⟨[], o4, o5, o6, rfl, by rw [bdc_0, List.append_nil], n4, n5, n6⟩ (fun z rest s hI => ?_) (fun s hI => ?_)
      · obtain ⟨done, o4, o5, o6, e, rfl, n4, n5, n6⟩ := hI
        obtain ⟨a, b⟩ := z
        have hab : 0 ≤ a ∧ 0 ≤ b := by
          have : (a, b) ∈ of2 := by rw [e]; simp
          unfold of2 at this
          simp at this
          omega
        have hd : done.length < 2 := by
          have := congrArg List.length e
          rw [List.length_append, List.length_cons] at this
          have h4 : of2.length = 2 := rfl
          omega
        have hc : ((bdp g x y row ++ bdc g x y done).map prD).length < cap := Nat.lt_of_lt_of_le (show _ < 1000 by
          rw [List.length_map, List.length_append]
          have := bdc_len g x y done
          omega) cap_big
        have nope : pA g (x + a) (y + b) = none → ∀ o6 : Option Slot, pinned o6 = false → ∃ (done' : List (Int × Int)) (o4' o5' o6' : Option Slot), of2 = done' ++ rest ∧ (⟨[some ⟨lndD g, 0, false⟩, some ⟨.lst ((bdp g x y row ++ bdc g x y done).map prD), 1, false⟩, some ⟨.int (x : Int), 0, false⟩, some ⟨.int (y : Int), 0, false⟩, some ⟨.int a, 0, false⟩, some ⟨.int b, 0, false⟩, o6], S⟩ : Sx) = ⟨[some ⟨lndD g, 0, false⟩, some ⟨.lst ((bdp g x y row ++ bdc g x y done').map prD), 1, false⟩, some ⟨.int (x : Int), 0, false⟩, some ⟨.int (y : Int), 0, false⟩, o4', o5', o6'], S⟩ ∧ pinned o4' = false ∧ pinned o5' = false ∧ pinned o6' = false := fun hn o6 n6 => ⟨done ++ [(a, b)], _, _, _, by rw [e]; simp, by rw [bdc_1n hn], rfl, rfl, n6⟩
        by_cases h1 : (x : Int) + a < (g.length : Int)
        · by_cases h2 : (y : Int) + b < (wd g : Int)
          · obtain ⟨r, _, _, _, x1, x2⟩ := pA_in G (i := x + a) (j := y + b) (by omega) h1 (by omega) h2
            simp_arith [off_e, n4, n5, n6, len_ld, hix, len_rw, hrl, decide_eq_true h1, decide_eq_true h2, ej, x1, x2]
            cases hp : pA g x y with
            | none =>
              simp_arith [nin_nn]
              have e9 : bdc g x y done = bdc g x y (done ++ [(a, b)]) := by rw [bdc_n hp, bdc_n hp]
              exact ⟨done ++ [(a, b)], _, _, _, by rw [e]; simp, by rw [e9], rfl, rfl, rfl⟩
            | some l =>
              cases hq : pA g (x + a) (y + b) with
              | none =>
                simp_arith [cD_s, nin_sn]
                exact nope hq _ rfl
              | some o =>
                simp_arith [cD_s, nin_pr, min_pr, max_pr, prD_i, app_ok hc]
                have e9 : (bdp g x y row ++ bdc g x y done).map prD ++ [prD (mnL l o, mxL l o)] = (bdp g x y row ++ bdc g x y (done ++ [(a, b)])).map prD := by
                  rw [bdc_1s hp hq]
                  simp only [List.map_append, List.map_cons, List.map_nil, List.append_assoc]
                exact ⟨done ++ [(a, b)], _, _, _, by rw [e]; simp, by rw [e9], rfl, rfl, rfl⟩
          · have hn : pA g (x + a) (y + b) = none := pA_out fun z => h2 z.2.2.2
            simp_arith [off_e, n4, n5, n6, len_ld, hix, len_rw, hrl, decide_eq_true h1, decide_eq_false h2]
            exact nope hn _ n6
        · have hn : pA g (x + a) (y + b) = none := pA_out fun z => h1 z.2.1
          simp_arith [off_e, n4, n5, n6, len_ld, hix, len_rw, hrl, decide_eq_false h1]
          exact nope hn _ n6
      · obtain ⟨done, o4, o5, o6, e, rfl, n4, n5, n6⟩ := hI
        rw [List.append_nil] at e
        subst e
        have e9 : bdp g x y row ++ bdc g x y of2 = bdp g x (y + 1) row := (twt_1 G ei hlt2 _).symm
        exact ⟨y + 1, _, _, _, _, hr'', hlt2, by rw [e9], rfl, n4, n5, n6⟩
    · obtain ⟨j, o3, o4, o5, o6, hr, hj, rfl, n3, n4, n5, n6⟩ := hI
      have hjw := rdn hr hj
      have e9 : bdp g x j row = (twL (g.zipIdx.take (x + 1))).flatMap (bd1 g) := by
        unfold bdp
        rw [twt_r ei, zt_n row (by rw [hjw, hrl])]
      exact ⟨x + 1, _, _, _, _, _, hr', hlt, by rw [e9], rfl, n3, n4, n5, n6⟩
  · obtain ⟨k, o2, o3, o4, o5, o6, hr, hk, rfl, n2, n3, n4, n5, n6⟩ := hI
    have hkg := rdn hr hk
    have e9 : (twL (g.zipIdx.take k)).flatMap (bd1 g) = bds g := by
      unfold bds tw
      rw [zt_n g hkg]
    rw [e9]
    simp_arith [sortp]
    exact ⟨rfl, rfl, rfl⟩
end Mi

set_option Elab.async false
set_option linter.all false
set_option maxRecDepth 100000
set_option maxHeartbeats 1000000
namespace Mi
open PySem L2
local macro_rules | `(tactic| simp_arith [$ls,*]) => `(tactic| simp -implicitDefEqProofs only [w_ins, obF_o, clB_1, w_att, w_meth, w_methK, w_mk, w_mkI, w_mkK, w_mkKI, noneO_n, w_setI, w_fld, ap_get, ap_set, few_0, few_1, few_2, few_3, putI_0, lck_v1, lck_v0, w_ds, w_dsO, w_aug, w_augS, par3_c, w_par3, lenG_l, lenG_t, lenG_r, lenG_d, lenG_s, minG_i, maxG_i, w_frz, w_bnd, w_ret, w_stuck, w_opt, w_vr, w_cn, w_lookV, w_lookS, w_flatV, w_flatS, w_ownV, w_ownS, w_movV, w_movS, w_ifS, w_ifV, w_andT, w_orT, w_notT, w_truM, w_andV, w_orV, w_notV, Sq_nx, Sq_bk, Sq_ct, Sq_rt, w_seq, w_bin, w_uno, w_cmpV, w_cmpT, w_chV, w_chT, w_st, w_rt, w_exM, w_set, w_evN, w_evC, w_flats0, w_flats, w_fzo, w_fzos0, w_fzos, w_blt, w_tup, w_lst, w_stO, w_idx, gt_0, gt_V, gt_S, w_call, w_callO, fill_0, fill_n, fill_s, dfl_0, dfl_c, w_callV, w_callK, fin_rt, fin_nx, pins_0, pins_n, pins_t, w_src, w_srS, srS_l0, srS_l1, srS_t, srS_c, srS_s, srS_d0, srS_d1, srV_l0, srV_l1, srV_t, srV_c, srV_s, srV_d, w_rng1, w_en, on1_c, w_enV, w_enS, enS_t, enS_s, enS_l0, enS_l1, w_prt, prF_i, w_sl, w_sm, sF_s, w_lm, w_lmP, lF_l, w_lmO, lmS_l, w_par, par2_c, w_tupG, tpF_t1, tpF_t2, tpF_t3, tpF_t4, tpF_l2, tpF_l3, w_setsN, w_setsC, w_prsN, w_prsC, w_dct, w_get, dF_d, w_for, tn_nx, tn_ct, tn_bk, tn_rt, w_lc, w_step, atS_s, atT_s, atO_s, Bt_t, Bt_f, Gd_t, z0_0, z0_1, z0_2, z0_s, le1_0, le1_1, fz_0, fz_all, fz_l1, leC_k0, leC_k1, leC_k2, leC_k3, leC_k4, leC_k5, leC_k6, leC_k7, leC_k8, leC_k9, leC_k10, leC_k11, leC_k12, leC_k13, leC_k14, leC_k15, leC_k16, pin_s, pin_n, neq_t, wipe_0, wipe_c, back_0, back_c, unp_0, unp_c, List.getElem?_cons_zero, List.getElem?_cons_succ, List.set_cons_zero, List.set_cons_succ, Bool.not_true, Bool.not_false, Bool.and_true, Bool.true_and, Bool.and_false, List.map_cons, List.map_nil, List.length_cons, List.length_nil, List.take_succ_cons, List.take_zero, List.cons_append, List.nil_append, Option.map_some, List.getD_cons_zero, List.getD_cons_succ, Option.getD_some, Option.getD_none, Nat.reduceAdd, Nat.zero_add, Nat.reduceSub, List.replicate, Nat.add_zero, if_true, if_false, ite_true, ite_false, Bool.false_eq_true, reduceIte, add_i, sub_i, lt_i, gt_i, ge_i, le_i, int_b, int_i, tru_b, tru_i, tru_n, tru_l, tru_t, len_l, len_t, len_r, tup_l, tup_t, is_n, pop0, decide_true, decide_false, Nat.reduceLeDiff, $ls,*])

/-! ### each village told right -/
theorem lkp_of {α : Type} : ∀ {ws : List (List Nat × α)} {l : List Nat} {v : α}, (ws.map (·.1)).Nodup → (l, v) ∈ ws → ws.lookup l = some v
  | [], _, _, _, h => (List.not_mem_nil h).elim
  | (k, u) :: ws, l, v, hn, h => by
    rw [List.map_cons] at hn
    have hn' := List.nodup_cons.mp hn
    rw [List.lookup_cons]
    rcases List.mem_cons.mp h with h' | h'
    · injection h' with h1 h2
      subst h1
      subst h2
      rw [beq_self_eq_true]
    · have hne : (l == k) = false := by
        simp only [beq_eq_false_iff_ne]
        intro e
        subst e
        exact hn'.1 (List.mem_map.mpr ⟨_, h', rfl⟩)
      rw [hne]
      exact lkp_of hn'.2 h'
theorem tw_lk {g : List (List Cell)} (G : Gl g) {i j : Nat} {l : List Nat} (hi : i < g.length) (hj : j < wd g) (h : pA g i j = some l) : (tw g).lookup l = some (i, j) := by
  have ei : g[i]? = some g[i] := List.getElem?_eq_getElem hi
  obtain ⟨rest, e⟩ := tw_pre (j := j + 1) ei
  refine lkp_of G.twd ?_
  rw [e, zt_1 (pA_at G ei hj), h, twR_s]
  simp
theorem pl_sp (p : Nat × Nat) : pl 63 (spV p) = true := pl_tup (n := 62) fun d hd => by
  rcases List.mem_cons.mp hd with rfl | hd
  · exact pl_i _ _
  · rcases List.mem_cons.mp hd with rfl | hd
    · exact pl_i _ _
    · exact (List.not_mem_nil hd).elim
theorem pl_2l {d : D} (h : pl 63 d = true) : pl 64 (.lst [d, d]) = true := pl_lst (n := 63) fun x hx => by
  simp only [List.mem_cons, List.not_mem_nil, or_false] at hx
  rcases hx with rfl | rfl <;> exact h
theorem tws_mem {p : List Cell} {l : List Nat} : l ∈ tws p ↔ some l ∈ p := by
  unfold tws
  simp [List.mem_filterMap]
theorem pA_gw {g : List (List Cell)} (G : Gl g) {i j : Int} {l : List Nat} (h : pA g i j = some l) : gw l := by
  by_cases hc : 0 ≤ i ∧ i < (g.length : Int) ∧ 0 ≤ j ∧ j < (wd g : Int)
  · obtain ⟨r, e1, _, e2, _⟩ := pA_in G hc.1 hc.2.1 hc.2.2.1 hc.2.2.2
    rw [h] at e2
    exact G.gd l (tws_mem.mpr (List.mem_flatten.mpr ⟨r, List.mem_of_getElem? e1, List.mem_of_getElem? e2⟩))
  · rw [pA_out hc] at h
    cases h
theorem pl_nb {g : List (List Cell)} (G : Gl g) (i j : Int) : pl 63 (nbD g i j) = true := pl_tup (n := 62) fun d hd => by
  obtain ⟨l, hl, rfl⟩ := List.mem_map.mp hd
  rw [srtW_mem, tws_mem] at hl
  refine pl_dt (gwp ?_)
  unfold nbs at hl
  simp only [List.mem_cons, List.not_mem_nil, or_false] at hl
  rcases hl with h | h | h | h <;> exact pA_gw G h.symm
theorem isi_nb (g : List (List Cell)) (i j : Int) : isiF [nbD g i j, .ty "tuple"] = some (.bl true, 0) := rfl
theorem isi_sp (p : Nat × Nat) : isiF [spV p, .ty "tuple"] = some (.bl true, 0) := rfl
theorem cap_2 : 2 ≤ cap := by decide
theorem u2_map {d : D} : [d, d] = [(), ()].map fun _ => d := rfl
theorem all_2 {d : D} (h : d = .bl true) : allF [.lst [d, d]] = some (.bl true, 0) := all_t _ fun x hx => by
  simp only [List.mem_cons, List.not_mem_nil, or_false] at hx
  rcases hx with rfl | rfl <;> exact h
section
variable {S : List Inst} {n : Nat} {g : List (List Cell)} (h : S[n]? = some (Ld g)) (G : Gl g)
include h G
theorem town_s {i j : Nat} {l : List Nat} (hi : i < g.length) (hj : j < wd g) (hp : pA g i j = some l) : FOk fn__law_town_right [⟨.obj n, 0, false⟩, ⟨lndD g, 0, false⟩, ⟨.int (i : Nat), 0, false⟩, ⟨.int (j : Nat), 0, false⟩] S (BlQ true S) := by
  unfold fn__law_town_right m__law_town_right
  rw [f_fn]
  have ei : g[i]? = some g[i] := List.getElem?_eq_getElem hi
  have x1 := ix_ld ei
  have x2 := ix_rw (pA_at G ei hj)
  rw [hp] at x2
  have lk := tw_lk G hi hj hp
  have e1 := ne_refl (pl_2l (pl_sp (i, j)))
  have e2 := eq_refl (pl_2l (pl_nb G i j))
  simp_arith [x1, x2, cD_s, h, Ld_c, Ld_m3]
  refine (spot_s h lk).mono ?_
  rintro _ _ _ _ ⟨rfl, rfl, rfl⟩
  simp_arith [fill_n2, h, Ld_c, Ld_m3, pk_00]
  refine (spot_s h lk).mono ?_
  rintro _ _ _ _ ⟨rfl, rfl, rfl⟩
  simp_arith [fill_n2, spV_i, e1]
  refine wp_lcBx (X := Unit) (xs := [(), ()]) (h := fun _ => spV (i, j)) (fun _ => .bl true) rfl (by decide) cap_2 rfl rfl (fun n x hx => ?_) ?_
  · simp_arith [isi_sp]
    exact ⟨rfl, rfl, rfl⟩
  · simp_arith [all_2 rfl]
    refine (around_s G).mono ?_
    rintro _ _ _ _ ⟨rfl, rfl, rfl⟩
    simp_arith [fill_n3, h, Ld_c, Ld_m5]
    refine (lnb_s h G lk).mono ?_
    rintro _ _ _ _ ⟨rfl, rfl, rfl⟩
    simp_arith [fill_n2, h, Ld_c, Ld_m5, pk_00]
    refine (lnb_s h G lk).mono ?_
    rintro _ _ _ _ ⟨rfl, rfl, rfl⟩
    simp_arith [fill_n2, e2]
    refine wp_lcBx (X := Unit) (xs := [(), ()]) (h := fun _ => nbD g i j) (fun _ => .bl true) rfl (by decide) cap_2 rfl rfl (fun n x hx => ?_) ?_
    · simp_arith [isi_nb]
      exact ⟨rfl, rfl, rfl⟩
    · simp_arith [all_2 rfl]
      exact ⟨rfl, rfl, rfl⟩
theorem each_s : FOk fn__law_each_right [⟨.obj n, 0, false⟩, ⟨lndD g, 0, false⟩] S (BlQ true S) := by
  unfold fn__law_each_right m__law_each_right
  rw [f_fn]
  have h6 := G.h6
  have hw16 := G.wd16
  obtain ⟨r0, e0, hr0⟩ := G.r0
  have i0 : ixF (lndD g) (.int 0) = some (rwD r0, 0) := ix_ld e0
  have hw0 := G.wdr r0 hr0
  simp_arith [len_ld, r1_map (show g.length < 1000000000 by omega)]
  refine wp_forx (X := Nat) (xs := List.range g.length) (h := fun i : Nat => D.int (i : Int)) (fun rest s => ∃ (k : Nat) (o2 o3 : Option Slot), rest = (List.range g.length).drop k ∧ k ≤ g.length ∧ s = ⟨[some ⟨.obj n, 0, false⟩, some ⟨lndD g, 0, false⟩, o2, o3], S⟩ ∧ pinned o2 = false ∧ pinned o3 = false)
    ⟨0, none, none, rfl, Nat.zero_le _, rfl, rfl, rfl⟩ (fun x rest s hI => ?_) (fun s hI => ?_)
  · obtain ⟨k, o2, o3, hr, hk, rfl, n2, n3⟩ := hI
    obtain ⟨rfl, hr', hlt⟩ := rdc hr
    have ei : g[x]? = some g[x] := List.getElem?_eq_getElem hlt
    have hix := ix_ld ei
    simp_arith [n2, n3, i0, len_rw, hw0, r1_map (show wd g < 1000000000 by omega)]
    refine wp_forx (X := Nat) (xs := List.range (wd g)) (h := fun i : Nat => D.int (i : Int)) (fun rest s => ∃ (j : Nat) (o3 : Option Slot), rest = (List.range (wd g)).drop j ∧ j ≤ wd g ∧ s = ⟨[some ⟨.obj n, 0, false⟩, some ⟨lndD g, 0, false⟩, some ⟨.int (x : Int), 0, false⟩, o3], S⟩ ∧ pinned o3 = false)
      ⟨0, o3, rfl, Nat.zero_le _, rfl, n3⟩ (fun y rest s hI => ?_) (fun s hI => ?_)
    · obtain ⟨j, o3, hr, hj, rfl, n3⟩ := hI
      obtain ⟨rfl, hr'', hlt2⟩ := rdc hr
      have ej := ix_rw (pA_at G ei hlt2)
      simp_arith [n3, hix, ej]
      cases hp : pA g x y with
      | none =>
        simp_arith [cD_n, nis_n, isN_n]
        exact ⟨y + 1, _, hr'', hlt2, rfl, rfl⟩
      | some l =>
        simp_arith [cD_s, nis_n, isN_dt]
        refine (town_s h G hlt hlt2 hp).mono ?_
        rintro _ _ _ _ ⟨rfl, rfl, rfl⟩
        simp_arith [fill_n4]
        exact ⟨y + 1, _, hr'', hlt2, rfl, rfl⟩
    · obtain ⟨j, o3, hr, hj, rfl, n3⟩ := hI
      exact ⟨x + 1, _, _, hr', hlt, rfl, rfl, n3⟩
  · obtain ⟨k, o2, o3, hr, hk, rfl, n2, n3⟩ := hI
    simp_arith []
    exact ⟨rfl, rfl, rfl⟩
end
end Mi

set_option Elab.async false
set_option linter.all false
set_option maxRecDepth 100000
set_option maxHeartbeats 1000000
namespace Mi
open PySem L2
local macro_rules | `(tactic| simp_arith [$ls,*]) => `(tactic| simp -implicitDefEqProofs only [w_ins, obF_o, clB_1, w_att, w_meth, w_methK, w_mk, w_mkI, w_mkK, w_mkKI, noneO_n, w_setI, w_fld, ap_get, ap_set, few_0, few_1, few_2, few_3, putI_0, lck_v1, lck_v0, w_ds, w_dsO, w_aug, w_augS, par3_c, w_par3, lenG_l, lenG_t, lenG_r, lenG_d, lenG_s, minG_i, maxG_i, w_frz, w_bnd, w_ret, w_stuck, w_opt, w_vr, w_cn, w_lookV, w_lookS, w_flatV, w_flatS, w_ownV, w_ownS, w_movV, w_movS, w_ifS, w_ifV, w_andT, w_orT, w_notT, w_truM, w_andV, w_orV, w_notV, Sq_nx, Sq_bk, Sq_ct, Sq_rt, w_seq, w_bin, w_uno, w_cmpV, w_cmpT, w_chV, w_chT, w_st, w_rt, w_exM, w_set, w_evN, w_evC, w_flats0, w_flats, w_fzo, w_fzos0, w_fzos, w_blt, w_tup, w_lst, w_stO, w_idx, gt_0, gt_V, gt_S, w_call, w_callO, fill_0, fill_n, fill_s, dfl_0, dfl_c, w_callV, w_callK, fin_rt, fin_nx, pins_0, pins_n, pins_t, w_src, w_srS, srS_l0, srS_l1, srS_t, srS_c, srS_s, srS_d0, srS_d1, srV_l0, srV_l1, srV_t, srV_c, srV_s, srV_d, w_rng1, w_en, on1_c, w_enV, w_enS, enS_t, enS_s, enS_l0, enS_l1, w_prt, prF_i, w_sl, w_sm, sF_s, w_lm, w_lmP, lF_l, w_lmO, lmS_l, w_par, par2_c, w_tupG, tpF_t1, tpF_t2, tpF_t3, tpF_t4, tpF_l2, tpF_l3, w_setsN, w_setsC, w_prsN, w_prsC, w_dct, w_get, dF_d, w_for, tn_nx, tn_ct, tn_bk, tn_rt, w_lc, w_step, atS_s, atT_s, atO_s, Bt_t, Bt_f, Gd_t, z0_0, z0_1, z0_2, z0_s, le1_0, le1_1, fz_0, fz_all, fz_l1, leC_k0, leC_k1, leC_k2, leC_k3, leC_k4, leC_k5, leC_k6, leC_k7, leC_k8, leC_k9, leC_k10, leC_k11, leC_k12, leC_k13, leC_k14, leC_k15, leC_k16, pin_s, pin_n, neq_t, wipe_0, wipe_c, back_0, back_c, unp_0, unp_c, List.getElem?_cons_zero, List.getElem?_cons_succ, List.set_cons_zero, List.set_cons_succ, Bool.not_true, Bool.not_false, Bool.and_true, Bool.true_and, Bool.and_false, List.map_cons, List.map_nil, List.length_cons, List.length_nil, List.take_succ_cons, List.take_zero, List.cons_append, List.nil_append, Option.map_some, List.getD_cons_zero, List.getD_cons_succ, Option.getD_some, Option.getD_none, Nat.reduceAdd, Nat.zero_add, Nat.reduceSub, List.replicate, Nat.add_zero, if_true, if_false, ite_true, ite_false, Bool.false_eq_true, reduceIte, add_i, sub_i, lt_i, gt_i, ge_i, le_i, int_b, int_i, tru_b, tru_i, tru_n, tru_l, tru_t, len_l, len_t, len_r, tup_l, tup_t, is_n, pop0, decide_true, decide_false, Nat.reduceLeDiff, $ls,*])

/-! ### the law -/
theorem ix_46 (b : Bool) : ∃ most : Int, ixF (.lst [.int 4, .int 6]) (.int (if b = true then 1 else 0)) = some (.int most, 0) ∧ 1 ≤ most ∧ most ≤ 6 := by
  cases b
  · exact ⟨4, rfl, by decide, by decide⟩
  · exact ⟨6, rfl, by decide, by decide⟩
theorem nm_i (g : List (List Cell)) : D.tup ((srtW (tws g.flatten)).map dt) = nmD g := rfl
theorem bd_i (g : List (List Cell)) : D.tup ((srtP (bds g)).map prD) = bdD g := rfl
theorem pl_cD {g : List (List Cell)} (G : Gl g) {r : List Cell} (hr : r ∈ g) {c : Cell} (hc : c ∈ r) {n : Nat} : pl n (cD c) = true := by
  cases c with
  | none => exact pl_n _
  | some l => exact pl_dt (gwp (G.gd l (tws_mem.mpr (List.mem_flatten.mpr ⟨r, hr, hc⟩))))
theorem pl_ld {g : List (List Cell)} (G : Gl g) : pl 64 (lndD g) = true := pl_tup (n := 63) fun d hd => by
  obtain ⟨r, hr, rfl⟩ := List.mem_map.mp hd
  refine pl_tup (n := 62) fun d hd => ?_
  obtain ⟨c, hc, rfl⟩ := List.mem_map.mp hd
  exact pl_cD G hr hc
theorem pl_nm {g : List (List Cell)} (G : Gl g) : pl 64 (nmD g) = true := pl_tup (n := 63) fun d hd => by
  obtain ⟨l, hl, rfl⟩ := List.mem_map.mp hd
  rw [srtW_mem] at hl
  exact pl_dt (gwp (G.gd l hl))
theorem mn_or (a b : List Nat) : mnL a b = a ∨ mnL a b = b := by
  unfold mnL
  split
  · exact .inr rfl
  · exact .inl rfl
theorem mx_or (a b : List Nat) : mxL a b = a ∨ mxL a b = b := by
  unfold mxL
  split
  · exact .inr rfl
  · exact .inl rfl
theorem bds_gw {g : List (List Cell)} (G : Gl g) {q : Pr} (h : q ∈ bds g) : gw q.1 ∧ gw q.2 := by
  unfold bds at h
  obtain ⟨t, ht, hq⟩ := List.mem_flatMap.mp h
  unfold bd1 at hq
  obtain ⟨o, ho, rfl⟩ := List.mem_map.mp hq
  have h1 := G.twg t ht
  have h2 : gw o := by
    rw [tws_mem] at ho
    simp only [List.mem_cons, List.not_mem_nil, or_false] at ho
    rcases ho with h | h <;> exact pA_gw G h.symm
  constructor
  · show gw (mnL t.1 o)
    rcases mn_or t.1 o with e | e <;> rw [e] <;> assumption
  · show gw (mxL t.1 o)
    rcases mx_or t.1 o with e | e <;> rw [e] <;> assumption
theorem pl_prD {q : Pr} (h1 : gw q.1) (h2 : gw q.2) : pl 63 (prD q) = true := pl_tup (n := 62) fun d hd => by
  simp only [List.mem_cons, List.not_mem_nil, or_false] at hd
  rcases hd with rfl | rfl
  · exact pl_dt (gwp h1)
  · exact pl_dt (gwp h2)
theorem pl_bd {g : List (List Cell)} (G : Gl g) : pl 64 (bdD g) = true := pl_tup (n := 63) fun d hd => by
  obtain ⟨q, hq, rfl⟩ := List.mem_map.mp hd
  have := bds_gw G (srtP_mem.mp hq)
  exact pl_prD this.1 this.2
theorem bdl_cap {g : List (List Cell)} (G : Gl g) : (srtP (bds g)).length ≤ cap := by
  rw [srtP_len]
  have h1 := bds_len g (tw g)
  have h2 := G.tw36
  exact Nat.le_trans (show _ ≤ 1000 by unfold bds; omega) cap_big
theorem r1_2 : r1F [.int 2] = some ((List.range 2).map fun i : Nat => D.int (i : Int)) := r1_map (n := 2) (by decide)
theorem isi_pr (q : Pr) : isiF [prD q, .ty "tuple"] = some (.bl true, 0) := rfl
theorem srV_bd {s : Sx} (g : List (List Cell)) (Q : Src → Sx → Prop) : Wp (srcOf (.val (bdD g) 0)) s Q = Q (.fix ((srtP (bds g)).map prD)) s := srV_t _ _
/-- a land is made -/
def MkQ (S : List Inst) (g : List (List Cell)) (r : List (Option Slot)) (o : Op) (s1 : Sx) : Prop := o = .val (.obj S.length) 0 ∧ s1 = ⟨r, S ++ [Ld g]⟩
theorem mk_ok {a b c v : Int} {S : List Inst} {g : List (List Cell)} (G : Gl g) {o0 o1 o3 o6 o7 o8 : Option Slot} :
    Wp (ifV (cmpT eqB (vr 4) (cn (.int 0))) (mkM "Land" fn_Land_init 2 [] (evC (vr 5) evN)) (mkK "Land" fn_Land_init 2 0 1 [0, 0] [] evN (evC (vr 5) evN)))
      ⟨[o0, o1, some ⟨prs a b c, 1, false⟩, o3, some ⟨.int v, 0, false⟩, some ⟨lndD g, 0, false⟩, o6, o7, o8], S⟩
      (MkQ S g [o0, o1, some ⟨prs a b c, 1, false⟩, o3, some ⟨.int v, 0, false⟩, some ⟨lndD g, 0, false⟩, o6, o7, o8]) := by
  simp_arith [eq_i]
  refine Bt_by (fun hk => ?_) (fun hk => ?_)
  · simp_arith []
    refine (linit_s G).mono ?_
    rintro _ _ _ _ ⟨rfl, rfl, rfl⟩
    simp_arith [fill_n2, noneO_n]
    exact ⟨rfl, rfl⟩
  · simp_arith [pk_00]
    refine (linit_s G).mono ?_
    rintro _ _ _ _ ⟨rfl, rfl, rfl⟩
    simp_arith [fill_n2, noneO_n]
    exact ⟨rfl, rfl⟩
def TrQ (d : D) (k : Nat) (outs : List (Option Slot)) (S' : List Inst) : Prop := d = .bl true ∧ k = 0
theorem law_s {ns : List Int} (hns : ns.length ≤ 63) : FOk fn_law [⟨.scr (ns.map D.int), 0, false⟩] [] TrQ := by
  unfold fn_law m_law
  rw [f_fn]
  simp_arith [minG_i, maxG_i, min_i, max_i]
  obtain ⟨N, hN, hN8⟩ : ∃ N : Nat, (if (if 5 < ((ns.map D.int).length : Int) then 5 else ((ns.map D.int).length : Int)) > 2 then (if 5 < ((ns.map D.int).length : Int) then 5 else ((ns.map D.int).length : Int)) else 2) = (N : Int) ∧ N ≤ 8 := by
    generalize (ns.map D.int).length = z
    refine ⟨(if (if 5 < (z : Int) then 5 else (z : Int)) > 2 then (if 5 < (z : Int) then 5 else (z : Int)) else 2).toNat, ?_, ?_⟩ <;> (split <;> split <;> omega)
  simp_arith [hN, r1_map (show N < 1000000000 by omega)]
  refine wp_forx (X := Nat) (fun rest s => (∀ k ∈ rest, k < 8) ∧ ∃ (S : List Inst) (o1 o2 o3 o4 o5 o6 o7 : Option Slot), (pinned o1 = false ∧ pinned o2 = false ∧ pinned o3 = false ∧ pinned o4 = false ∧ pinned o5 = false ∧ pinned o6 = false ∧ pinned o7 = false) ∧ s = ⟨[some ⟨.scr (ns.map D.int), 0, false⟩, o1, o2, o3, o4, o5, o6, o7, none], S⟩) ⟨fun k hk => by have := List.mem_range.mp hk; omega, [], none, none, none, none, none, none, none, ⟨rfl, rfl, rfl, rfl, rfl, rfl, rfl⟩, rfl⟩ (fun k rest s hI => ?_) (fun s hI => ?_)
  · obtain ⟨hk8, S, o1, o2, o3, o4, o5, o6, o7, ⟨n1, n2, n3, n4, n5, n6, n7⟩, rfl⟩ := hI
    have hk : k < 8 := hk8 k (List.mem_cons_self ..)
    simp -implicitDefEqProofs only [w_ins, obF_o, clB_1, w_att, w_meth, w_methK, w_mk, w_mkI, w_mkK, w_mkKI, noneO_n, w_setI, w_fld, ap_get, ap_set, few_0, few_1, few_2, few_3, putI_0, lck_v1, lck_v0, w_ds, w_dsO, w_aug, w_augS, par3_c, w_par3, lenG_l, lenG_t, lenG_r, lenG_d, lenG_s, minG_i, maxG_i, w_frz, w_bnd, w_ret, w_stuck, w_opt, w_vr, w_cn, w_lookV, w_lookS, w_flatV, w_flatS, w_ownV, w_ownS, w_movV, w_movS, w_ifS, w_ifV, w_andT, w_orT, w_notT, w_truM, w_andV, w_orV, w_notV, Sq_nx, Sq_bk, Sq_ct, Sq_rt, w_bin, w_uno, w_cmpV, w_cmpT, w_chV, w_chT, w_st, w_rt, w_exM, w_set, w_evN, w_evC, w_flats0, w_flats, w_fzo, w_fzos0, w_fzos, w_blt, w_tup, w_lst, w_stO, w_idx, gt_0, gt_V, gt_S, w_call, w_callO, fill_0, fill_n, fill_s, dfl_0, dfl_c, w_callV, w_callK, fin_rt, fin_nx, pins_0, pins_n, pins_t, w_src, w_srS, srS_l0, srS_l1, srS_t, srS_c, srS_s, srS_d0, srS_d1, srV_l0, srV_l1, srV_t, srV_c, srV_s, srV_d, w_rng1, w_en, on1_c, w_enV, w_enS, enS_t, enS_s, enS_l0, enS_l1, w_prt, prF_i, w_sl, w_sm, sF_s, w_lm, w_lmP, lF_l, w_lmO, lmS_l, w_par, par2_c, w_tupG, tpF_t1, tpF_t2, tpF_t3, tpF_t4, tpF_l2, tpF_l3, w_setsN, w_setsC, w_prsN, w_prsC, w_dct, w_get, dF_d, w_for, tn_nx, tn_ct, tn_bk, tn_rt, w_lc, w_step, atS_s, atT_s, atO_s, Bt_t, Bt_f, Gd_t, z0_0, z0_1, z0_2, z0_s, le1_0, le1_1, fz_0, fz_all, fz_l1, leC_k0, leC_k1, leC_k2, leC_k3, leC_k4, leC_k5, leC_k6, leC_k7, leC_k8, leC_k9, leC_k10, leC_k11, leC_k12, leC_k13, leC_k14, leC_k15, leC_k16, pin_s, pin_n, neq_t, wipe_0, wipe_c, back_0, back_c, unp_0, unp_c, List.getElem?_cons_zero, List.getElem?_cons_succ, List.set_cons_zero, List.set_cons_succ, Bool.not_true, Bool.not_false, Bool.and_true, Bool.true_and, Bool.and_false, List.map_cons, List.map_nil, List.length_cons, List.length_nil, List.take_succ_cons, List.take_zero, List.cons_append, List.nil_append, Option.map_some, List.getD_cons_zero, List.getD_cons_succ, Option.getD_some, Option.getD_none, Nat.reduceAdd, Nat.zero_add, Nat.reduceSub, List.replicate, Nat.add_zero, if_true, if_false, ite_true, ite_false, Bool.false_eq_true, reduceIte, add_i, sub_i, lt_i, gt_i, ge_i, le_i, int_b, int_i, tru_b, tru_i, tru_n, tru_l, tru_t, len_l, len_t, len_r, tup_l, tup_t, is_n, pop0, decide_true, decide_false, Nat.reduceLeDiff, n1]
    simp_arith [n1]
    refine (cell_s (ns := ns) (i := k) (by omega)).mono ?_
    rintro _ _ _ _ ⟨v, rfl, rfl, rfl⟩
    simp_arith [fill_n2]
    refine purse_s.mono ?_
    rintro _ _ _ _ ⟨a, b, c, rfl, rfl, rfl⟩
    simp_arith [fill_n1, n2]
    refine (pick_s p8 q8).mono ?_
    rintro _ _ _ _ ⟨v1, a, b, c, rfl, h1, rfl, rfl, rfl⟩
    simp_arith [eq_i]
    refine (pick_s p2 q2).mono ?_
    rintro _ _ _ _ ⟨v2, a, b, c, rfl, h2, rfl, rfl, rfl⟩
    obtain ⟨most, hmost, hm1, hm6⟩ := ix_46 (decide ((v1 : Int) = 3))
    simp_arith [n3, n4, hmost]
    refine (land_s hm1 hm6).mono ?_
    rintro _ _ _ _ ⟨g, a, b, c, G, rfl, rfl, rfl, rfl⟩
    simp -implicitDefEqProofs only [w_ins, obF_o, clB_1, w_att, w_meth, w_methK, w_mk, w_mkI, w_mkK, w_mkKI, noneO_n, w_setI, w_fld, ap_get, ap_set, few_0, few_1, few_2, few_3, putI_0, lck_v1, lck_v0, w_ds, w_dsO, w_aug, w_augS, par3_c, w_par3, lenG_l, lenG_t, lenG_r, lenG_d, lenG_s, minG_i, maxG_i, w_frz, w_bnd, w_ret, w_stuck, w_opt, w_vr, w_cn, w_lookV, w_lookS, w_flatV, w_flatS, w_ownV, w_ownS, w_movV, w_movS, w_ifS, w_ifV, w_andT, w_orT, w_notT, w_truM, w_andV, w_orV, w_notV, Sq_nx, Sq_bk, Sq_ct, Sq_rt, w_bin, w_uno, w_cmpV, w_cmpT, w_chV, w_chT, w_st, w_rt, w_exM, w_set, w_evN, w_evC, w_flats0, w_flats, w_fzo, w_fzos0, w_fzos, w_blt, w_tup, w_lst, w_stO, w_idx, gt_0, gt_V, gt_S, w_call, w_callO, fill_0, fill_n, fill_s, dfl_0, dfl_c, w_callV, w_callK, fin_rt, fin_nx, pins_0, pins_n, pins_t, w_src, w_srS, srS_l0, srS_l1, srS_t, srS_c, srS_s, srS_d0, srS_d1, srV_l0, srV_l1, srV_t, srV_c, srV_s, srV_d, w_rng1, w_en, on1_c, w_enV, w_enS, enS_t, enS_s, enS_l0, enS_l1, w_prt, prF_i, w_sl, w_sm, sF_s, w_lm, w_lmP, lF_l, w_lmO, lmS_l, w_par, par2_c, w_tupG, tpF_t1, tpF_t2, tpF_t3, tpF_t4, tpF_l2, tpF_l3, w_setsN, w_setsC, w_prsN, w_prsC, w_dct, w_get, dF_d, w_for, tn_nx, tn_ct, tn_bk, tn_rt, w_lc, w_step, atS_s, atT_s, atO_s, Bt_t, Bt_f, Gd_t, z0_0, z0_1, z0_2, z0_s, le1_0, le1_1, fz_0, fz_all, fz_l1, leC_k0, leC_k1, leC_k2, leC_k3, leC_k4, leC_k5, leC_k6, leC_k7, leC_k8, leC_k9, leC_k10, leC_k11, leC_k12, leC_k13, leC_k14, leC_k15, leC_k16, pin_s, pin_n, neq_t, wipe_0, wipe_c, back_0, back_c, unp_0, unp_c, List.getElem?_cons_zero, List.getElem?_cons_succ, List.set_cons_zero, List.set_cons_succ, Bool.not_true, Bool.not_false, Bool.and_true, Bool.true_and, Bool.and_false, List.map_cons, List.map_nil, List.length_cons, List.length_nil, List.take_succ_cons, List.take_zero, List.cons_append, List.nil_append, Option.map_some, List.getD_cons_zero, List.getD_cons_succ, Option.getD_some, Option.getD_none, Nat.reduceAdd, Nat.zero_add, Nat.reduceSub, List.replicate, Nat.add_zero, if_true, if_false, ite_true, ite_false, Bool.false_eq_true, reduceIte, add_i, sub_i, lt_i, gt_i, ge_i, le_i, int_b, int_i, tru_b, tru_i, tru_n, tru_l, tru_t, len_l, len_t, len_r, tup_l, tup_t, is_n, pop0, decide_true, decide_false, Nat.reduceLeDiff, n5]
    rw [w_seq, w_st]
    refine (mk_ok G).mono ?_
    rintro _ _ ⟨rfl, rfl⟩
    obtain ⟨S1, n, hg, hS1, hn⟩ : ∃ S1 n, S1[n]? = some (Ld g) ∧ S ++ [Ld g] = S1 ∧ S.length = n := ⟨_, _, ap_get (Ld g), rfl, rfl⟩
    rw [hS1, hn]
    have f1 := ne_refl (pl_ld G)
    have f2 := ne_refl (pl_nm G)
    have f3 := ne_refl (pl_bd G)
    simp_arith [n6, r1_2]
    refine wp_forx (X := Nat) (xs := List.range 2) (h := fun i : Nat => D.int (i : Int)) (fun rest s => ∃ (o7 : Option Slot), pinned o7 = false ∧ s = ⟨[some ⟨.scr (ns.map D.int), 0, false⟩, some ⟨.int (k : Int), 0, false⟩, some ⟨prs a b c, 1, false⟩, some ⟨.bl (decide ((v1 : Int) = 3)), 0, false⟩, some ⟨.int (v2 : Int), 0, false⟩, some ⟨lndD g, 0, false⟩, some ⟨.obj n, 0, false⟩, o7, none], S1⟩)
      ⟨o7, n7, rfl⟩ (fun t rest s hI => ?_) (fun s hI => ?_)
    · obtain ⟨o7, n7, rfl⟩ := hI
      simp_arith [n7, hg, Ld_c, Ld_rows, isi_ld, f1]
      refine (each_s hg G).mono ?_
      rintro _ _ _ _ ⟨rfl, rfl, rfl⟩
      simp_arith [fill_n2, hg, Ld_c, Ld_m4]
      refine (lnames_s hg G).mono ?_
      rintro _ _ _ _ ⟨rfl, rfl, rfl⟩
      simp_arith [fill_n1]
      refine (lawnames_s G).mono ?_
      rintro _ _ _ _ ⟨rfl, rfl, rfl⟩
      simp_arith [fill_n1, tup_ls, nm_i, f2, hg, Ld_c, Ld_m6]
      refine (lbd_s hg G).mono ?_
      rintro _ _ _ _ ⟨rfl, rfl, rfl⟩
      simp_arith [fill_n1]
      refine (beside_s G).mono ?_
      rintro _ _ _ _ ⟨rfl, rfl, rfl⟩
      simp_arith [fill_n1, tup_ls, bd_i, f3]
      exact ⟨_, rfl, rfl⟩
    · obtain ⟨o7, n7, rfl⟩ := hI
      simp_arith [hg, Ld_c, Ld_m6]
      refine (lbd_s hg G).mono ?_
      rintro _ _ _ _ ⟨rfl, rfl, rfl⟩
      simp_arith [fill_n1, srV_bd]
      refine wp_lcx (X := Pr) (xs := srtP (bds g)) (h := prD) (fun _ => .bl true) (bdl_cap G) rfl (fun x hx => ?_) ?_
      · simp_arith [isi_pr]
        exact ⟨rfl, rfl, rfl⟩
      · simp_arith [all_t ((srtP (bds g)).map fun _ => D.bl true) (fun d hd => by obtain ⟨_, _, rfl⟩ := List.mem_map.mp hd; rfl)]
        exact ⟨fun k hk => hk8 k (List.mem_cons_of_mem _ hk), _, _, _, _, _, _, _, _, ⟨rfl, rfl, rfl, rfl, rfl, rfl, n7⟩, rfl⟩
  · obtain ⟨_, S, o1, o2, o3, o4, o5, o6, o7, _, rfl⟩ := hI
    simp_arith []
    exact ⟨rfl, rfl⟩
theorem plain_ (ns : List Int) (hl : ns.length ≤ 63) (hb : ∀ z ∈ ns, Builtin.Int.intBits z ≤ 1048576) : ∃ outs S', fn_law [⟨.scr (ns.map D.int), 0, false⟩] [] = .ok (.bl true) 0 outs S' := by
  obtain ⟨d, k, outs, S', e, rfl, rfl⟩ := (law_s hl).ex
  exact ⟨outs, S', e⟩
end Mi

set_option Elab.async false
set_option linter.all false
set_option maxRecDepth 100000
set_option maxHeartbeats 0
namespace Mi
open PySem L2
def d__law_purse : He.DefD := ⟨("_law_purse", none), "_law_purse", "_law_purse", defArgs s__law_purse, defBody s__law_purse, defScope s__law_purse, [], []⟩
def d__law_cell : He.DefD := ⟨("_law_cell", none), "_law_cell", "_law_cell", defArgs s__law_cell, defBody s__law_cell, defScope s__law_cell, [], []⟩
def d__law_pick : He.DefD := ⟨("_law_pick", none), "_law_pick", "_law_pick", defArgs s__law_pick, defBody s__law_pick, defScope s__law_pick, [], []⟩
def d__law_menu : He.DefD := ⟨("_law_menu", none), "_law_menu", "_law_menu", defArgs s__law_menu, defBody s__law_menu, defScope s__law_menu, [], []⟩
def d__law_word : He.DefD := ⟨("_law_word", none), "_law_word", "_law_word", defArgs s__law_word, defBody s__law_word, defScope s__law_word, [], []⟩
def d__law_fresh : He.DefD := ⟨("_law_fresh", none), "_law_fresh", "_law_fresh", defArgs s__law_fresh, defBody s__law_fresh, defScope s__law_fresh, [], []⟩
def d__law_land : He.DefD := ⟨("_law_land", none), "_law_land", "_law_land", defArgs s__law_land, defBody s__law_land, defScope s__law_land, [], []⟩
def d_is_row : He.DefD := ⟨("is_row", none), "is_row", "is_row", defArgs s_is_row, defBody s_is_row, defScope s_is_row, [], []⟩
def d_are_laid : He.DefD := ⟨("are_laid", none), "are_laid", "are_laid", defArgs s_are_laid, defBody s_are_laid, defScope s_are_laid, [], []⟩
def d_is_word : He.DefD := ⟨("is_word", none), "is_word", "is_word", defArgs s_is_word, defBody s_is_word, defScope s_is_word, [], []⟩
def d_are_rows : He.DefD := ⟨("are_rows", none), "are_rows", "are_rows", defArgs s_are_rows, defBody s_are_rows, defScope s_are_rows, [], []⟩
def d_spots_of : He.DefD := ⟨("spots_of", none), "spots_of", "spots_of", defArgs s_spots_of, defBody s_spots_of, defScope s_spots_of, [], []⟩
def d_Land_init : He.DefD := ⟨("Land", some "__init__"), "__init__", "Land.__init__", defArgs s_Land_init, defBody s_Land_init, defScope s_Land_init, [], []⟩
def d_Land_has_village : He.DefD := ⟨("Land", some "has_village"), "has_village", "Land.has_village", defArgs s_Land_has_village, defBody s_Land_has_village, defScope s_Land_has_village, [], []⟩
def d_Land_check_village : He.DefD := ⟨("Land", some "check_village"), "check_village", "Land.check_village", defArgs s_Land_check_village, defBody s_Land_check_village, defScope s_Land_check_village, [], []⟩
def d_Land_spot : He.DefD := ⟨("Land", some "spot"), "spot", "Land.spot", defArgs s_Land_spot, defBody s_Land_spot, defScope s_Land_spot, [], []⟩
def d__law_around : He.DefD := ⟨("_law_around", none), "_law_around", "_law_around", defArgs s__law_around, defBody s__law_around, defScope s__law_around, [], []⟩
def d_part_at : He.DefD := ⟨("part_at", none), "part_at", "part_at", defArgs s_part_at, defBody s_part_at, defScope s_part_at, [], []⟩
def d_neighbours_of : He.DefD := ⟨("neighbours_of", none), "neighbours_of", "neighbours_of", defArgs s_neighbours_of, defBody s_neighbours_of, defScope s_neighbours_of, [], []⟩
def d_Land_neighbours : He.DefD := ⟨("Land", some "neighbours"), "neighbours", "Land.neighbours", defArgs s_Land_neighbours, defBody s_Land_neighbours, defScope s_Land_neighbours, [], []⟩
def d__law_town_right : He.DefD := ⟨("_law_town_right", none), "_law_town_right", "_law_town_right", defArgs s__law_town_right, defBody s__law_town_right, defScope s__law_town_right, [], []⟩
def d__law_each_right : He.DefD := ⟨("_law_each_right", none), "_law_each_right", "_law_each_right", defArgs s__law_each_right, defBody s__law_each_right, defScope s__law_each_right, [], []⟩
def d_names_of : He.DefD := ⟨("names_of", none), "names_of", "names_of", defArgs s_names_of, defBody s_names_of, defScope s_names_of, [], []⟩
def d_Land_names : He.DefD := ⟨("Land", some "names"), "names", "Land.names", defArgs s_Land_names, defBody s_Land_names, defScope s_Land_names, [], []⟩
def d__law_names : He.DefD := ⟨("_law_names", none), "_law_names", "_law_names", defArgs s__law_names, defBody s__law_names, defScope s__law_names, [], []⟩
def d_borders_of : He.DefD := ⟨("borders_of", none), "borders_of", "borders_of", defArgs s_borders_of, defBody s_borders_of, defScope s_borders_of, [], []⟩
def d_Land_borders : He.DefD := ⟨("Land", some "borders"), "borders", "Land.borders", defArgs s_Land_borders, defBody s_Land_borders, defScope s_Land_borders, [], []⟩
def d__law_beside : He.DefD := ⟨("_law_beside", none), "_law_beside", "_law_beside", defArgs s__law_beside, defBody s__law_beside, defScope s__law_beside, [], []⟩
def d_law : He.DefD := ⟨("law", none), "law", "law", defArgs s_law, defBody s_law, defScope s_law, [], []⟩
def fns_ : List He.DefD := [d__law_purse, d__law_cell, d__law_pick, d__law_menu, d__law_word, d__law_fresh, d__law_land, d_is_row, d_are_laid, d_is_word, d_are_rows, d_spots_of, d_Land_init, d_Land_has_village, d_Land_check_village, d_Land_spot, d__law_around, d_part_at, d_neighbours_of, d_Land_neighbours, d__law_town_right, d__law_each_right, d_names_of, d_Land_names, d__law_names, d_borders_of, d_Land_borders, d__law_beside, d_law]
def fas_ : List He.Fa := [.glo "_law_purse", .glo "_law_cell", .glo "_law_pick", .glo "_law_menu", .glo "_law_word", .glo "_law_fresh", .glo "_law_land", .glo "is_row", .glo "are_laid", .glo "is_word", .glo "are_rows", .glo "spots_of", .glo "Land", .cls "Land", .mkr "Land", .meth "Land" "has_village", .meth "Land" "check_village", .meth "Land" "spot", .glo "_law_around", .glo "part_at", .glo "neighbours_of", .meth "Land" "neighbours", .glo "_law_town_right", .glo "_law_each_right", .glo "names_of", .meth "Land" "names", .glo "_law_names", .glo "borders_of", .meth "Land" "borders", .glo "_law_beside", .glo "law", .noat "Land" "rows", .noat "Land" "spots", .free "int", .free "len", .free "range", .free "tuple", .free "isinstance", .int "MOST_SIDE" 6, .free "all", .free "str", .int "MOST_LETTERS" 8, .str "LETTERS" "abcdefghijklmnopqrstuvwxyz", .free "enumerate", .free "sorted", .free "min", .free "max"]
def ts_ : List He.Tab := []
def ex_ (K : PySem.W.Frag) : Bool := true
theorem facts_ {P : Program} {w : World} {K : PySem.W.Frag} {h : Heap} {mg : Str → Option Value} {fa : Addr} (X : K.In h) (G : h.Ns mainGlobals mg) (hfa : mg ("law" : Str) = some (.ref fa)) (c : He.SaysX fas_ fns_ ts_ [] ex_ w h K) :
    ∃ fd : FuncData, (∀ (s : Shared) (v : Value), BindsTo s fd ⟨[v], []⟩ [("_law_script", v)]) ∧ ∀ base : Heap, K.In base → base.Ns mainGlobals mg → FnOk P w K mg base (L2.CX P w) 6 fa fd ["_law_script"] (spOf K 1 fn_law) := by
  have cd := c.t.d
  obtain ⟨fd__law_purse, F__law_purse⟩ := cd.def_ 0 (d := d__law_purse) rfl
  obtain ⟨fd__law_cell, F__law_cell⟩ := cd.def_ 1 (d := d__law_cell) rfl
  obtain ⟨fd__law_pick, F__law_pick⟩ := cd.def_ 2 (d := d__law_pick) rfl
  obtain ⟨fd__law_menu, F__law_menu⟩ := cd.def_ 3 (d := d__law_menu) rfl
  obtain ⟨fd__law_word, F__law_word⟩ := cd.def_ 4 (d := d__law_word) rfl
  obtain ⟨fd__law_fresh, F__law_fresh⟩ := cd.def_ 5 (d := d__law_fresh) rfl
  obtain ⟨fd__law_land, F__law_land⟩ := cd.def_ 6 (d := d__law_land) rfl
  obtain ⟨fd_is_row, F_is_row⟩ := cd.def_ 7 (d := d_is_row) rfl
  obtain ⟨fd_are_laid, F_are_laid⟩ := cd.def_ 8 (d := d_are_laid) rfl
  obtain ⟨fd_is_word, F_is_word⟩ := cd.def_ 9 (d := d_is_word) rfl
  obtain ⟨fd_are_rows, F_are_rows⟩ := cd.def_ 10 (d := d_are_rows) rfl
  obtain ⟨fd_spots_of, F_spots_of⟩ := cd.def_ 11 (d := d_spots_of) rfl
  obtain ⟨fd_Land_init, F_Land_init⟩ := cd.def_ 12 (d := d_Land_init) rfl
  obtain ⟨fd_Land_has_village, F_Land_has_village⟩ := cd.def_ 13 (d := d_Land_has_village) rfl
  obtain ⟨fd_Land_check_village, F_Land_check_village⟩ := cd.def_ 14 (d := d_Land_check_village) rfl
  obtain ⟨fd_Land_spot, F_Land_spot⟩ := cd.def_ 15 (d := d_Land_spot) rfl
  obtain ⟨fd__law_around, F__law_around⟩ := cd.def_ 16 (d := d__law_around) rfl
  obtain ⟨fd_part_at, F_part_at⟩ := cd.def_ 17 (d := d_part_at) rfl
  obtain ⟨fd_neighbours_of, F_neighbours_of⟩ := cd.def_ 18 (d := d_neighbours_of) rfl
  obtain ⟨fd_Land_neighbours, F_Land_neighbours⟩ := cd.def_ 19 (d := d_Land_neighbours) rfl
  obtain ⟨fd__law_town_right, F__law_town_right⟩ := cd.def_ 20 (d := d__law_town_right) rfl
  obtain ⟨fd__law_each_right, F__law_each_right⟩ := cd.def_ 21 (d := d__law_each_right) rfl
  obtain ⟨fd_names_of, F_names_of⟩ := cd.def_ 22 (d := d_names_of) rfl
  obtain ⟨fd_Land_names, F_Land_names⟩ := cd.def_ 23 (d := d_Land_names) rfl
  obtain ⟨fd__law_names, F__law_names⟩ := cd.def_ 24 (d := d__law_names) rfl
  obtain ⟨fd_borders_of, F_borders_of⟩ := cd.def_ 25 (d := d_borders_of) rfl
  obtain ⟨fd_Land_borders, F_Land_borders⟩ := cd.def_ 26 (d := d_Land_borders) rfl
  obtain ⟨fd__law_beside, F__law_beside⟩ := cd.def_ 27 (d := d__law_beside) rfl
  obtain ⟨fd_law, F_law⟩ := cd.def_ 28 (d := d_law) rfl
  have g_int := He.free_ok X G (cd.fact 33 (f := .free "int") rfl)
  have g_len := He.free_ok X G (cd.fact 34 (f := .free "len") rfl)
  have g_range := He.free_ok X G (cd.fact 35 (f := .free "range") rfl)
  have g_tuple := He.free_ok X G (cd.fact 36 (f := .free "tuple") rfl)
  have g_isinstance := He.free_ok X G (cd.fact 37 (f := .free "isinstance") rfl)
  have g_MOST_SIDE := He.int_ok X G (cd.fact 38 (f := .int "MOST_SIDE" 6) rfl)
  have g_all := He.free_ok X G (cd.fact 39 (f := .free "all") rfl)
  have g_str := He.free_ok X G (cd.fact 40 (f := .free "str") rfl)
  have g_MOST_LETTERS := He.int_ok X G (cd.fact 41 (f := .int "MOST_LETTERS" 8) rfl)
  have g_LETTERS := He.str_ok X G (cd.fact 42 (f := .str "LETTERS" "abcdefghijklmnopqrstuvwxyz") rfl)
  have g_enumerate := He.free_ok X G (cd.fact 43 (f := .free "enumerate") rfl)
  have g_sorted := He.free_ok X G (cd.fact 44 (f := .free "sorted") rfl)
  have g_min := He.free_ok X G (cd.fact 45 (f := .free "min") rfl)
  have g_max := He.free_ok X G (cd.fact 46 (f := .free "max") rfl)
  have g_Land := He.glo_ok X G (cd.fact 12 (f := .glo "Land") rfl)
  have hf_rows : ∀ c ∈ (["Land"] : List Str), Cls K (He.ga K c) ∧ NoAttr K (He.ga K c) "rows" := by
    intro c hc
    simp only [List.mem_cons, List.not_mem_nil, or_false] at hc
    rcases hc with rfl
    · exact ⟨He.cls_ok (cd.fact 13 (f := .cls "Land") rfl), He.noat_ok (cd.fact 31 (f := .noat "Land" "rows") rfl)⟩
  have hf_spots : ∀ c ∈ (["Land"] : List Str), Cls K (He.ga K c) ∧ NoAttr K (He.ga K c) "spots" := by
    intro c hc
    simp only [List.mem_cons, List.not_mem_nil, or_false] at hc
    rcases hc with rfl
    · exact ⟨He.cls_ok (cd.fact 13 (f := .cls "Land") rfl), He.noat_ok (cd.fact 32 (f := .noat "Land" "spots") rfl)⟩
  have m_Land' := He.glo_ok X G (cd.fact 12 (f := .glo "Land") rfl)
  have cl_Land := He.cls_ok (cd.fact 13 (f := .cls "Land") rfl)
  have mk_Land' := He.mkr_ok (cd.fact 14 (f := .mkr "Land") rfl)
  have m__law_purse' := He.glo_ok X G (cd.fact 0 (f := .glo "_law_purse") rfl)
  have m__law_cell' := He.glo_ok X G (cd.fact 1 (f := .glo "_law_cell") rfl)
  have m__law_pick' := He.glo_ok X G (cd.fact 2 (f := .glo "_law_pick") rfl)
  have m__law_menu' := He.glo_ok X G (cd.fact 3 (f := .glo "_law_menu") rfl)
  have m__law_word' := He.glo_ok X G (cd.fact 4 (f := .glo "_law_word") rfl)
  have m__law_fresh' := He.glo_ok X G (cd.fact 5 (f := .glo "_law_fresh") rfl)
  have m__law_land' := He.glo_ok X G (cd.fact 6 (f := .glo "_law_land") rfl)
  have m_is_row' := He.glo_ok X G (cd.fact 7 (f := .glo "is_row") rfl)
  have m_are_laid' := He.glo_ok X G (cd.fact 8 (f := .glo "are_laid") rfl)
  have m_is_word' := He.glo_ok X G (cd.fact 9 (f := .glo "is_word") rfl)
  have m_are_rows' := He.glo_ok X G (cd.fact 10 (f := .glo "are_rows") rfl)
  have m_spots_of' := He.glo_ok X G (cd.fact 11 (f := .glo "spots_of") rfl)
  have me_Land_has_village := He.meth_ok (cd.fact 15 (f := .meth "Land" "has_village") rfl)
  have me_Land_check_village := He.meth_ok (cd.fact 16 (f := .meth "Land" "check_village") rfl)
  have me_Land_spot := He.meth_ok (cd.fact 17 (f := .meth "Land" "spot") rfl)
  have m__law_around' := He.glo_ok X G (cd.fact 18 (f := .glo "_law_around") rfl)
  have m_part_at' := He.glo_ok X G (cd.fact 19 (f := .glo "part_at") rfl)
  have m_neighbours_of' := He.glo_ok X G (cd.fact 20 (f := .glo "neighbours_of") rfl)
  have me_Land_neighbours := He.meth_ok (cd.fact 21 (f := .meth "Land" "neighbours") rfl)
  have m__law_town_right' := He.glo_ok X G (cd.fact 22 (f := .glo "_law_town_right") rfl)
  have m__law_each_right' := He.glo_ok X G (cd.fact 23 (f := .glo "_law_each_right") rfl)
  have m_names_of' := He.glo_ok X G (cd.fact 24 (f := .glo "names_of") rfl)
  have me_Land_names := He.meth_ok (cd.fact 25 (f := .meth "Land" "names") rfl)
  have m__law_names' := He.glo_ok X G (cd.fact 26 (f := .glo "_law_names") rfl)
  have m_borders_of' := He.glo_ok X G (cd.fact 27 (f := .glo "borders_of") rfl)
  have me_Land_borders := He.meth_ok (cd.fact 28 (f := .meth "Land" "borders") rfl)
  have m__law_beside' := He.glo_ok X G (cd.fact 29 (f := .glo "_law_beside") rfl)
  have m_law' := He.glo_ok X G (cd.fact 30 (f := .glo "law") rfl)
  have ef : He.ga K "law" = fa := by
    have e := (m_law').symm.trans hfa
    injection e with e
    injection e
  subst ef
  refine ⟨fd_law, fun s v => FunD.bindsA (ps := ["_law_script"]) F_law (fun _ _ _ _ _ _ us hl => match us, hl with | [_], _ => rfl) s [v] rfl, fun base _ _ => ?_⟩
  have o__law_purse := ok__law_purse (P := P) (w := w) (K := K) (mg := mg) (base := base) F__law_purse g_int
  have c__law_purse : Cal P w K mg base 1 "_law_purse" 1 fn__law_purse [] := ⟨_, fd__law_purse, ["_law_cell_here"], [], [], o__law_purse, m__law_purse', F__law_purse.kp, F__law_purse.bindsN (fun _ _ _ _ _ _ us hl => match us, hl with | [_], _ => rfl), .nil, fun _ => rfl⟩
  have o__law_cell := ok__law_cell (P := P) (w := w) (K := K) (mg := mg) (base := base) F__law_cell g_len
  have c__law_cell : Cal P w K mg base 1 "_law_cell" 2 fn__law_cell [] := ⟨_, fd__law_cell, ["_law_script", "_law_k"], [], [], o__law_cell, m__law_cell', F__law_cell.kp, F__law_cell.bindsN (fun _ _ _ _ _ _ us hl => match us, hl with | [_, _], _ => rfl), .nil, fun _ => rfl⟩
  have o__law_pick := ok__law_pick (P := P) (w := w) (K := K) (mg := mg) (base := base) F__law_pick
  have c__law_pick : Cal P w K mg base 1 "_law_pick" 2 fn__law_pick [] := ⟨_, fd__law_pick, ["_law_purse_here", "_law_many"], [], [], o__law_pick, m__law_pick', F__law_pick.kp, F__law_pick.bindsN (fun _ _ _ _ _ _ us hl => match us, hl with | [_, _], _ => rfl), .nil, fun _ => rfl⟩
  have o__law_menu := ok__law_menu (P := P) (w := w) (K := K) (mg := mg) (base := base) F__law_menu
  have c__law_menu : Cal P w K mg base 1 "_law_menu" 0 fn__law_menu [] := ⟨_, fd__law_menu, [], [], [], o__law_menu, m__law_menu', F__law_menu.kp, F__law_menu.bindsN (fun _ _ _ _ _ _ us hl => match us, hl with | [], _ => rfl), .nil, fun _ => rfl⟩
  have o__law_word := ok__law_word (P := P) (w := w) (K := K) (mg := mg) (base := base) F__law_word g_range c__law_menu c__law_pick
  have c__law_word : Cal P w K mg base 2 "_law_word" 1 fn__law_word [] := ⟨_, fd__law_word, ["_law_purse_here"], [], [], o__law_word, m__law_word', F__law_word.kp, F__law_word.bindsN (fun _ _ _ _ _ _ us hl => match us, hl with | [_], _ => rfl), .nil, fun _ => rfl⟩
  have o__law_fresh := ok__law_fresh (P := P) (w := w) (K := K) (mg := mg) (base := base) F__law_fresh c__law_word
  have c__law_fresh : Cal P w K mg base 3 "_law_fresh" 2 fn__law_fresh [] := ⟨_, fd__law_fresh, ["_law_purse_here", "_law_used"], [], [], o__law_fresh, m__law_fresh', F__law_fresh.kp, F__law_fresh.bindsN (fun _ _ _ _ _ _ us hl => match us, hl with | [_, _], _ => rfl), .nil, fun _ => rfl⟩
  have o__law_land := ok__law_land (P := P) (w := w) (K := K) (mg := mg) (base := base) F__law_land g_range g_tuple c__law_fresh c__law_pick
  have c__law_land : Cal P w K mg base 4 "_law_land" 2 fn__law_land [] := ⟨_, fd__law_land, ["_law_purse_here", "_law_most"], [], [], o__law_land, m__law_land', F__law_land.kp, F__law_land.bindsN (fun _ _ _ _ _ _ us hl => match us, hl with | [_, _], _ => rfl), .nil, fun _ => rfl⟩
  have o_is_row := ok_is_row (P := P) (w := w) (K := K) (mg := mg) (base := base) F_is_row g_isinstance g_len g_tuple
  have c_is_row : Cal P w K mg base 1 "is_row" 2 fn_is_row [] := ⟨_, fd_is_row, ["thing", "wide"], [], [], o_is_row, m_is_row', F_is_row.kp, F_is_row.bindsN (fun _ _ _ _ _ _ us hl => match us, hl with | [_, _], _ => rfl), .nil, fun _ => rfl⟩
  have o_are_laid := ok_are_laid (P := P) (w := w) (K := K) (mg := mg) (base := base) F_are_laid g_MOST_SIDE g_all g_isinstance g_len g_tuple c_is_row
  have c_are_laid : Cal P w K mg base 2 "are_laid" 1 fn_are_laid [] := ⟨_, fd_are_laid, ["thing"], [], [], o_are_laid, m_are_laid', F_are_laid.kp, F_are_laid.bindsN (fun _ _ _ _ _ _ us hl => match us, hl with | [_], _ => rfl), .nil, fun _ => rfl⟩
  have o_is_word := ok_is_word (P := P) (w := w) (K := K) (mg := mg) (base := base) F_is_word g_LETTERS g_MOST_LETTERS g_all g_isinstance g_len g_str
  have c_is_word : Cal P w K mg base 1 "is_word" 1 fn_is_word [] := ⟨_, fd_is_word, ["thing"], [], [], o_is_word, m_is_word', F_is_word.kp, F_is_word.bindsN (fun _ _ _ _ _ _ us hl => match us, hl with | [_], _ => rfl), .nil, fun _ => rfl⟩
  have o_are_rows := ok_are_rows (P := P) (w := w) (K := K) (mg := mg) (base := base) F_are_rows g_enumerate g_len c_are_laid c_is_word
  have c_are_rows : Cal P w K mg base 3 "are_rows" 1 fn_are_rows [] := ⟨_, fd_are_rows, ["thing"], [], [], o_are_rows, m_are_rows', F_are_rows.kp, F_are_rows.bindsN (fun _ _ _ _ _ _ us hl => match us, hl with | [_], _ => rfl), .nil, fun _ => rfl⟩
  have o_spots_of := ok_spots_of (P := P) (w := w) (K := K) (mg := mg) (base := base) F_spots_of g_enumerate
  have c_spots_of : Cal P w K mg base 1 "spots_of" 1 fn_spots_of [] := ⟨_, fd_spots_of, ["rows"], [], [], o_spots_of, m_spots_of', F_spots_of.kp, F_spots_of.bindsN (fun _ _ _ _ _ _ us hl => match us, hl with | [_], _ => rfl), .nil, fun _ => rfl⟩
  have o_Land_init := ok_Land_init (P := P) (w := w) (K := K) (mg := mg) (base := base) F_Land_init hf_rows hf_spots c_are_rows c_spots_of
  have mk_Land_init : CalI P w K mg base 4 "Land" 2 fn_Land_init [] := ⟨_, fd_Land_init, ["self", "rows"], [], [], mk_Land', m_Land', o_Land_init, F_Land_init.bindsN (fun _ _ _ _ _ _ us hl => match us, hl with | [_, _], _ => rfl), .nil, fun _ => rfl⟩
  have mkk_Land_init_0_rows : CalIK P w K mg base 4 "Land" 2 fn_Land_init 0 ["rows"] [0, 0] [] := ⟨_, fd_Land_init, ["self", "rows"], [], [], mk_Land', m_Land', o_Land_init, kw_binds0 F_Land_init (fun _ _ _ _ _ _ us ws h1 h2 => match us, ws, h1, h2 with | [_], [_], _, _ => rfl), .nil, fun _ => rfl⟩
  have o_Land_has_village := ok_Land_has_village (P := P) (w := w) (K := K) (mg := mg) (base := base) F_Land_has_village g_isinstance g_str hf_spots
  have mt_Land_has_village : CalM P w K mg base 1 "Land" "has_village" 2 fn_Land_has_village [] := ⟨_, fd_Land_has_village, ["self", "name"], [], [], cl_Land, me_Land_has_village, o_Land_has_village, F_Land_has_village.bindsN (fun _ _ _ _ _ _ us hl => match us, hl with | [_, _], _ => rfl), .nil, fun _ => rfl⟩
  have o_Land_check_village := ok_Land_check_village (P := P) (w := w) (K := K) (mg := mg) (base := base) F_Land_check_village mt_Land_has_village
  have mt_Land_check_village : CalM P w K mg base 2 "Land" "check_village" 2 fn_Land_check_village [] := ⟨_, fd_Land_check_village, ["self", "name"], [], [], cl_Land, me_Land_check_village, o_Land_check_village, F_Land_check_village.bindsN (fun _ _ _ _ _ _ us hl => match us, hl with | [_, _], _ => rfl), .nil, fun _ => rfl⟩
  have o_Land_spot := ok_Land_spot (P := P) (w := w) (K := K) (mg := mg) (base := base) F_Land_spot hf_spots mt_Land_check_village
  have mt_Land_spot : CalM P w K mg base 3 "Land" "spot" 2 fn_Land_spot [] := ⟨_, fd_Land_spot, ["self", "name"], [], [], cl_Land, me_Land_spot, o_Land_spot, F_Land_spot.bindsN (fun _ _ _ _ _ _ us hl => match us, hl with | [_, _], _ => rfl), .nil, fun _ => rfl⟩
  have mtk_Land_spot_0_name : CalMK P w K mg base 3 "Land" "spot" 2 fn_Land_spot 0 ["name"] [0, 0] [] := ⟨_, fd_Land_spot, ["self", "name"], [], [], cl_Land, me_Land_spot, o_Land_spot, kw_binds0 F_Land_spot (fun _ _ _ _ _ _ us ws h1 h2 => match us, ws, h1, h2 with | [_], [_], _, _ => rfl), .nil, fun _ => rfl⟩
  have o__law_around := ok__law_around (P := P) (w := w) (K := K) (mg := mg) (base := base) F__law_around g_len g_sorted g_tuple
  have c__law_around : Cal P w K mg base 1 "_law_around" 3 fn__law_around [] := ⟨_, fd__law_around, ["_law_laid", "_law_row", "_law_column"], [], [], o__law_around, m__law_around', F__law_around.kp, F__law_around.bindsN (fun _ _ _ _ _ _ us hl => match us, hl with | [_, _, _], _ => rfl), .nil, fun _ => rfl⟩
  have o_part_at := ok_part_at (P := P) (w := w) (K := K) (mg := mg) (base := base) F_part_at g_len
  have c_part_at : Cal P w K mg base 1 "part_at" 3 fn_part_at [] := ⟨_, fd_part_at, ["rows", "row", "column"], [], [], o_part_at, m_part_at', F_part_at.kp, F_part_at.bindsN (fun _ _ _ _ _ _ us hl => match us, hl with | [_, _, _], _ => rfl), .nil, fun _ => rfl⟩
  have o_neighbours_of := ok_neighbours_of (P := P) (w := w) (K := K) (mg := mg) (base := base) F_neighbours_of g_sorted g_tuple c_part_at c_spots_of
  have c_neighbours_of : Cal P w K mg base 2 "neighbours_of" 2 fn_neighbours_of [] := ⟨_, fd_neighbours_of, ["rows", "name"], [], [], o_neighbours_of, m_neighbours_of', F_neighbours_of.kp, F_neighbours_of.bindsN (fun _ _ _ _ _ _ us hl => match us, hl with | [_, _], _ => rfl), .nil, fun _ => rfl⟩
  have o_Land_neighbours := ok_Land_neighbours (P := P) (w := w) (K := K) (mg := mg) (base := base) F_Land_neighbours hf_rows c_neighbours_of mt_Land_check_village
  have mt_Land_neighbours : CalM P w K mg base 3 "Land" "neighbours" 2 fn_Land_neighbours [] := ⟨_, fd_Land_neighbours, ["self", "name"], [], [], cl_Land, me_Land_neighbours, o_Land_neighbours, F_Land_neighbours.bindsN (fun _ _ _ _ _ _ us hl => match us, hl with | [_, _], _ => rfl), .nil, fun _ => rfl⟩
  have mtk_Land_neighbours_0_name : CalMK P w K mg base 3 "Land" "neighbours" 2 fn_Land_neighbours 0 ["name"] [0, 0] [] := ⟨_, fd_Land_neighbours, ["self", "name"], [], [], cl_Land, me_Land_neighbours, o_Land_neighbours, kw_binds0 F_Land_neighbours (fun _ _ _ _ _ _ us ws h1 h2 => match us, ws, h1, h2 with | [_], [_], _, _ => rfl), .nil, fun _ => rfl⟩
  have o__law_town_right := ok__law_town_right (P := P) (w := w) (K := K) (mg := mg) (base := base) F__law_town_right g_all g_isinstance g_tuple c__law_around mt_Land_neighbours mt_Land_spot mtk_Land_neighbours_0_name mtk_Land_spot_0_name
  have c__law_town_right : Cal P w K mg base 4 "_law_town_right" 4 fn__law_town_right [] := ⟨_, fd__law_town_right, ["_law_country", "_law_laid", "_law_row", "_law_column"], [], [], o__law_town_right, m__law_town_right', F__law_town_right.kp, F__law_town_right.bindsN (fun _ _ _ _ _ _ us hl => match us, hl with | [_, _, _, _], _ => rfl), .nil, fun _ => rfl⟩
  have o__law_each_right := ok__law_each_right (P := P) (w := w) (K := K) (mg := mg) (base := base) F__law_each_right g_len g_range c__law_town_right
  have c__law_each_right : Cal P w K mg base 5 "_law_each_right" 2 fn__law_each_right [] := ⟨_, fd__law_each_right, ["_law_country", "_law_laid"], [], [], o__law_each_right, m__law_each_right', F__law_each_right.kp, F__law_each_right.bindsN (fun _ _ _ _ _ _ us hl => match us, hl with | [_, _], _ => rfl), .nil, fun _ => rfl⟩
  have o_names_of := ok_names_of (P := P) (w := w) (K := K) (mg := mg) (base := base) F_names_of g_sorted g_tuple c_spots_of
  have c_names_of : Cal P w K mg base 2 "names_of" 1 fn_names_of [] := ⟨_, fd_names_of, ["rows"], [], [], o_names_of, m_names_of', F_names_of.kp, F_names_of.bindsN (fun _ _ _ _ _ _ us hl => match us, hl with | [_], _ => rfl), .nil, fun _ => rfl⟩
  have o_Land_names := ok_Land_names (P := P) (w := w) (K := K) (mg := mg) (base := base) F_Land_names hf_rows c_names_of
  have mt_Land_names : CalM P w K mg base 3 "Land" "names" 1 fn_Land_names [] := ⟨_, fd_Land_names, ["self"], [], [], cl_Land, me_Land_names, o_Land_names, F_Land_names.bindsN (fun _ _ _ _ _ _ us hl => match us, hl with | [_], _ => rfl), .nil, fun _ => rfl⟩
  have o__law_names := ok__law_names (P := P) (w := w) (K := K) (mg := mg) (base := base) F__law_names g_sorted
  have c__law_names : Cal P w K mg base 1 "_law_names" 1 fn__law_names [] := ⟨_, fd__law_names, ["_law_laid"], [], [], o__law_names, m__law_names', F__law_names.kp, F__law_names.bindsN (fun _ _ _ _ _ _ us hl => match us, hl with | [_], _ => rfl), .nil, fun _ => rfl⟩
  have o_borders_of := ok_borders_of (P := P) (w := w) (K := K) (mg := mg) (base := base) F_borders_of g_max g_min g_sorted g_tuple c_part_at c_spots_of
  have c_borders_of : Cal P w K mg base 2 "borders_of" 1 fn_borders_of [] := ⟨_, fd_borders_of, ["rows"], [], [], o_borders_of, m_borders_of', F_borders_of.kp, F_borders_of.bindsN (fun _ _ _ _ _ _ us hl => match us, hl with | [_], _ => rfl), .nil, fun _ => rfl⟩
  have o_Land_borders := ok_Land_borders (P := P) (w := w) (K := K) (mg := mg) (base := base) F_Land_borders hf_rows c_borders_of
  have mt_Land_borders : CalM P w K mg base 3 "Land" "borders" 1 fn_Land_borders [] := ⟨_, fd_Land_borders, ["self"], [], [], cl_Land, me_Land_borders, o_Land_borders, F_Land_borders.bindsN (fun _ _ _ _ _ _ us hl => match us, hl with | [_], _ => rfl), .nil, fun _ => rfl⟩
  have o__law_beside := ok__law_beside (P := P) (w := w) (K := K) (mg := mg) (base := base) F__law_beside g_len g_max g_min g_range g_sorted
  have c__law_beside : Cal P w K mg base 1 "_law_beside" 1 fn__law_beside [] := ⟨_, fd__law_beside, ["_law_laid"], [], [], o__law_beside, m__law_beside', F__law_beside.kp, F__law_beside.bindsN (fun _ _ _ _ _ _ us hl => match us, hl with | [_], _ => rfl), .nil, fun _ => rfl⟩
  have o_law := ok_law (P := P) (w := w) (K := K) (mg := mg) (base := base) F_law g_Land g_all g_int g_isinstance g_len g_max g_min g_range g_tuple hf_rows c__law_beside c__law_cell c__law_each_right c__law_land c__law_names c__law_pick c__law_purse mk_Land_init mkk_Land_init_0_rows mt_Land_borders mt_Land_names
  exact o_law
def lo0_ : List Str := [("LandError" : Str), ("NoLand" : Str), ("NoName" : Str), ("LETTERS" : Str), ("MOST_LETTERS" : Str), ("is_word" : Str), ("MOST_SIDE" : Str), ("is_row" : Str), ("are_laid" : Str), ("are_rows" : Str), ("spots_of" : Str), ("names_of" : Str), ("part_at" : Str), ("neighbours_of" : Str), ("borders_of" : Str), ("row_text" : Str), ("Land" : Str), ("_law_cell" : Str), ("_law_purse" : Str), ("_law_pick" : Str), ("_law_menu" : Str), ("_law_word" : Str), ("_law_fresh" : Str), ("_law_land" : Str), ("_law_names" : Str), ("_law_beside" : Str), ("_law_around" : Str), ("_law_town_right" : Str), ("_law_each_right" : Str)]
def loose_ : List Str := lo0_
abbrev R_ : PySem.W.OpenRow := PySem.W.OpenLaw.row PySem.Challenge.rw_wordlines_k05_lands_told
abbrev hk_ : PySem.W.Hook := He.hookX 5 fas_ fns_ ts_ [] ex_
def ob_ (s : PySem.W.SharedT) : He.AlX := He.obsX 5 fas_ fns_ ts_ [] ex_ (HandSHeadRun.getT s)
theorem ob_eq_ (s : PySem.W.SharedT) : ob_ s = hk_.obs s.abs := He.obsX_eq (HandSHeadRun.getT_eq s)
theorem run_false (w : World) : HandSHeadRun.RunEq R_ (PySem.W.view R_.prog [33]) hk_ ob_ 4000 loose_ (w.withFollow "special-get-raises" false) := by
  intro os
  kernel_rfl
theorem run_true (w : World) : HandSHeadRun.RunEq R_ (PySem.W.view R_.prog [33]) hk_ ob_ 4000 loose_ (w.withFollow "special-get-raises" true) := by
  intro os
  kernel_rfl
theorem run_ (w : World) : HandSHeadRun.RunEq R_ (PySem.W.view R_.prog [33]) hk_ ob_ 4000 loose_ w := PySem.W.byRow2 "special-get-raises" (P := fun w => HandSHeadRun.RunEq R_ (PySem.W.view R_.prog [33]) hk_ ob_ 4000 loose_ w) run_false run_true w
end Mi
open PySem PySem.W PySem.Calls PyProof.Rows
theorem PySem.Challenge.cw_wordlines_k05_lands_told_holds : PySem.Challenge.rw_wordlines_k05_lands_told.Holds := by
  w_on; o_law
  refine HandSHeadRun.head_any (r := OpenLaw.row PySem.Challenge.rw_wordlines_k05_lands_told) (q := view (OpenLaw.row PySem.Challenge.rw_wordlines_k05_lands_told).prog [33]) (H := Mi.hk_) (ob := Mi.ob_) (M := 4000) (loose := Mi.loose_) (d := HandSHeadRun.topDef (OpenLaw.row PySem.Challenge.rw_wordlines_k05_lands_told).prog 33) (kwd := []) Mi.ob_eq_
    (by kernel_rfl) (fun s => by kernel_rfl) Mi.run_ (by kernel_rfl) (by kernel_rfl) (by kernel_rfl) (by rfl) (by first | assumption | decide +kernel) (by decide +kernel) ⟨rfl, rfl, rfl, rfl, rfl, by decide +kernel⟩ ?hw ?hc
  case hw => w_witness2
  case hc =>
    refine LamX.walk_ofTsE (l := PySem.Challenge.rw_wordlines_k05_lands_told) (n := 63) (k := 6) (x := "_law_script") (CX := fun w => L2.CX (PySem.Challenge.rw_wordlines_k05_lands_told).prog w) rfl (by decide) (by kernel_rfl) ⟨rfl, by decide, by decide⟩ ?F (fun _ _ _ _ _ z => Mi.cx_false z)
    intro w mg fa h Y G hmg0
    obtain ⟨K, KX, c⟩ := Y
    have hmg : mg ("law" : PySem.Str) = some (.ref fa) := by
      have e : (HandSHeadRun.topDef (OpenLaw.row PySem.Challenge.rw_wordlines_k05_lands_told).prog 33).name = ("law" : PySem.Str) := by kernel_rfl
      rw [← e]
      exact hmg0
    obtain ⟨fd, hb, hF⟩ := Mi.facts_ (P := (PySem.Challenge.rw_wordlines_k05_lands_told).prog) (w := w) KX G hmg c
    exact ⟨K, KX, fd, [], Mi.spOf K 1 Mi.fn_law, (fun p hp => nomatch hp), (fun p hp => nomatch hp), (fun p hp => nomatch hp), hb, fun H a ns hl hbits _ hS => Mi.law_at hS (Mi.plain_ ns hl hbits), fun base b1 b2 _ => hF base b1 b2⟩
