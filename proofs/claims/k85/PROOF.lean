import PyProof.Rows.All
import Wide.All
import OpenK.AllK
import Wide.FinOn
import HandS.ForMost
import HandS.Exc
import HandS.TryOnly
import HandS.ExcOwn
import HandS.WordsExc
import HandS.CallSlots
import HandS.HeadHook2
import HandS.Deep
import HandS.Wide
import HandS.TupAny
import HandS.TupLe
import HandS.IsInst
import KE.SortData
import KE.DataMinMax
import PyProof.ReprRoads
import HandS.Property
import HandS.StrMore
import HandS.Flow
import HandS.Text
import HandS.Zip
import HandS.Iter
import HandS.Style
import HandS.List
import KE.GoesEnum
import HandS.Star
import HandS.MakeKwOnly
import HandS.ClsMeth
import HandS.SetKeys
import HandS.SetFor
import HandS.ListItems
import KE.KDictZip
import HandS.HeadNt
import HandS.HeadEnd
import KE.KStateDown
import HandS.Ends
import HandS.Head0
import HandS.Head1
import HandS.Head2
import HandS.SetBool
import HandS.TupSets
import KE.KxText
import PyProof.Rows.ReprOcc
import PySem.Challenge.RW_grantroll_k85_whole_idle_grants
set_option Elab.async false
set_option linter.all false
set_option maxRecDepth 100000
namespace Gt
open PySem PySem.Spec PyProof.Rows L2
inductive D where
  | non | bl (b : Bool) | int (i : Int) | str (x : Str)
  | lst (xs : List D) | tup (xs : List D)
  | dct (ks : List D) (vs : List D)
  | ins (c : Nat) (fs : List D)
  | ref (n : Nat)
  | scr (ns : List Int)
inductive Sl where
  | no | pl (d : D) | own (xs : List D) | bor (xs : List D) | od (ks vs : List D) | oin (c : Nat) (fs : List D)
inductive MO where
  | lst (xs : List D) | ins (c : Nat) (fs : List D)
abbrev Ms := List MO
structure Xn where
  c : Nat
  fs : List D
inductive Rs (α : Type) where
  | ok (a : α) (S : Ms) | ex (x : Xn) (S : Ms) | st
inductive Fl where
  | nx (e : List Sl) | rt (v : Sl) | bk (e : List Sl) | ct (e : List Sl)
abbrev Evm := List Sl
abbrev Fe := Evm → Ms → Rs Sl
abbrev Fa := Evm → Ms → Rs (List Sl)
abbrev Ft := Evm → Ms → Rs Bool
abbrev Fs := Evm → Ms → Rs Fl
abbrev Fn := List Sl → Ms → Rs Sl
def Rs.bind {α β : Type} (r : Rs α) (f : α → Ms → Rs β) : Rs β := match r with
  | .ok a S => f a S
  | .ex x S => .ex x S
  | .st => .st
@[simp] theorem bind_ok {α β : Type} {a : α} {S : Ms} {f : α → Ms → Rs β} : (Rs.ok a S).bind f = f a S := rfl
@[simp] theorem bind_ex {α β : Type} {x : Xn} {S : Ms} {f : α → Ms → Rs β} : (Rs.ex x S : Rs α).bind f = .ex x S := rfl
@[simp] theorem bind_st {α β : Type} {f : α → Ms → Rs β} : (Rs.st : Rs α).bind f = .st := rfl
theorem bind_bind {α β γ : Type} {r : Rs α} {f : α → Ms → Rs β} {g : β → Ms → Rs γ} : (r.bind f).bind g = r.bind fun a S => (f a S).bind g := by cases r <;> rfl
def clN : Nat → Str
  | 0 => "Roll"
  | 1 => "Ledger"
  | 2 => "Hanging"
  | 3 => "Flow"
  | 10 => "GrantrollError"
  | 11 => "InvalidGrants"
  | 12 => "InvalidRoll"
  | 13 => "InvalidText"
  | 14 => "OtherOwners"
  | 15 => "UnknownGrant"
  | 16 => "InvalidName"
  | 17 => "InvalidPower"
  | 18 => "InvalidTime"
  | 19 => "KnownName"
  | 20 => "TooMany"
  | 21 => "InvalidIndex"
  | 22 => "NotStanding"
  | 23 => "InvalidCount"
  | 24 => "InvalidDeed"
  | 25 => "InvalidDeeds"
  | 26 => "InvalidGrant"
  | 27 => "NotCounting"
  | 28 => "NothingToRedo"
  | 29 => "NothingToUndo"
  | 30 => "OwnerLeaves"
  | 31 => "OwnerPower"
  | _ => ""
def clF : Nat → List Str
  | 0 => ["own", "made"]
  | 1 => ["held", "clock", "entries", "past", "undone"]
  | 12 => ["reason"]
  | 13 => ["row"]
  | 15 => ["grant"]
  | 19 => ["name"]
  | 20 => ["count"]
  | 21 => ["index"]
  | 23 => ["count"]
  | 24 => ["number"]
  | 26 => ["reason"]
  | 27 => ["grant"]
  | _ => []
def cA (K : PySem.W.Frag) (c : Nat) : Addr := He.ga K (clN c)
def Sub (H H' : Hp) : Prop := ∀ a o, H a = some o → H' a = some o
theorem Sub.refl (H : Hp) : Sub H H := fun _ _ h => h
theorem Sub.trans {H H1 H2 : Hp} (a : Sub H H1) (b : Sub H1 H2) : Sub H H2 := fun x o h => b x o (a x o h)
theorem Sub.none {H H' : Hp} (e : Sub H H') {l : Addr} (h : H' l = Option.none) : H l = Option.none := by
  cases q : H l with
  | none => rfl
  | some o =>
    rw [e l o q] at h
    cases h
theorem Sub.new {H : Hp} {p : Addr} {o : HO} (h : H p = Option.none) : Sub H (upd H p o) := fun a u e => by
  rw [upd_ne (ne_of_none e h)]
  exact e
theorem sub_rd {H H' : Hp} {a : Addr} {u : HO} (e : Sub H H') (h : Rd H a u) : Rd H' a u := by
  rcases h with h | ⟨o, h⟩
  · exact Or.inl (e a _ h)
  · exact Or.inr ⟨o, e a _ h⟩
theorem sub_l {K : PySem.W.Frag} {H H' : Hp} {a : Addr} {xs : List V} (e : Sub H H') (h : SqL K H a xs) : SqL K H' a xs := by
  rcases h with h | h
  · exact Or.inl (sub_rd e h)
  · exact Or.inr h
theorem sub_t {K : PySem.W.Frag} {H H' : Hp} {a : Addr} {xs : List V} (e : Sub H H') (h : SqT K H a xs) : SqT K H' a xs := by
  rcases h with h | h
  · exact Or.inl (sub_rd e h)
  · exact Or.inr h
def Ap (μ μ' : List Addr) : Prop := ∃ t, μ' = μ ++ t
theorem Ap.refl (μ : List Addr) : Ap μ μ := ⟨[], by simp⟩
theorem Ap.trans {a b c : List Addr} (h : Ap a b) (g : Ap b c) : Ap a c := by
  obtain ⟨t, rfl⟩ := h
  obtain ⟨u, rfl⟩ := g
  exact ⟨t ++ u, by simp⟩
theorem Ap.get {μ μ' : List Addr} (h : Ap μ μ') {n : Nat} {a : Addr} (e : μ[n]? = some a) : μ'[n]? = some a := by
  obtain ⟨t, rfl⟩ := h
  rw [List.getElem?_append_left (List.getElem?_eq_some_iff.mp e).1]
  exact e
theorem Ap.mem {μ μ' : List Addr} (h : Ap μ μ') {a : Addr} (e : a ∈ μ) : a ∈ μ' := by
  obtain ⟨t, rfl⟩ := h
  exact List.mem_append_left _ e
def keyD : Key → D
  | .inl i => .int i
  | .inr x => .str x
mutual
inductive Rp (K : PySem.W.Frag) (F : Hp) (μ : List Addr) : V → D → Prop
  | non : Rp K F μ .non .non
  | bl (b : Bool) : Rp K F μ (.bl b) (.bl b)
  | int (i : Int) : Rp K F μ (.int i) (.int i)
  | str (x : Str) : Rp K F μ (.str x) (.str x)
  | lst {a : Addr} {vs : List V} {ds : List D} : F a = some (.lst vs) → RpA K F μ vs ds → Rp K F μ (.ref a) (.lst ds)
  | scr {a : Addr} {ns : List Int} : SqL K F a (ns.map V.int) → Rp K F μ (.ref a) (.scr ns)
  | tup {a : Addr} {vs : List V} {ds : List D} : F a = some (.tup vs) → RpA K F μ vs ds → Rp K F μ (.ref a) (.tup ds)
  | dctK {a : Addr} {kvs : List (Key × V)} {ds : List D} : F a = some (.dK kvs) → RpA K F μ (kvs.map (·.2)) ds → Rp K F μ (.ref a) (.dct (kvs.map fun p => keyD p.1) ds)
  | dctT {a : Addr} {kvs : List (List Key × V)} {ds : List D} : F a = some (.dT kvs) → RpA K F μ (kvs.map (·.2)) ds → Rp K F μ (.ref a) (.dct (.non :: kvs.map fun p => .tup (p.1.map keyD)) ds)
  | ins {a dx : Addr} {c : Nat} {fs : List (Str × V)} {ds : List D} : F a = some (.ins (cA K c) dx fs) → fs.map (·.1) = clF c → RpA K F μ (fs.map (·.2)) ds → Rp K F μ (.ref a) (.ins c ds)
  | ref {a : Addr} {n : Nat} : μ[n]? = some a → Rp K F μ (.ref a) (.ref n)
inductive RpA (K : PySem.W.Frag) (F : Hp) (μ : List Addr) : List V → List D → Prop
  | nil : RpA K F μ [] []
  | cons {v : V} {vs : List V} {d : D} {ds : List D} : Rp K F μ v d → RpA K F μ vs ds → RpA K F μ (v :: vs) (d :: ds)
end
section
variable {K : PySem.W.Frag} {F F' : Hp} {μ μ' : List Addr}
mutual
theorem Rp.mono (e : Sub F F') (m : Ap μ μ') : ∀ {v : V} {d : D}, Rp K F μ v d → Rp K F' μ' v d
  | _, _, .non => .non
  | _, _, .bl b => .bl b
  | _, _, .int i => .int i
  | _, _, .str x => .str x
  | _, _, .lst h r => .lst (e _ _ h) (RpA.mono e m r)
  | _, _, .scr h => .scr (sub_l e h)
  | _, _, .tup h r => .tup (e _ _ h) (RpA.mono e m r)
  | _, _, .dctK h r => .dctK (e _ _ h) (RpA.mono e m r)
  | _, _, .dctT h r => .dctT (e _ _ h) (RpA.mono e m r)
  | _, _, .ins h n r => .ins (e _ _ h) n (RpA.mono e m r)
  | _, _, .ref h => .ref (m.get h)
theorem RpA.mono (e : Sub F F') (m : Ap μ μ') : ∀ {vs : List V} {ds : List D}, RpA K F μ vs ds → RpA K F' μ' vs ds
  | _, _, .nil => .nil
  | _, _, .cons h t => .cons (Rp.mono e m h) (RpA.mono e m t)
end
theorem RpA.len : ∀ {vs : List V} {ds : List D}, RpA K F μ vs ds → vs.length = ds.length
  | _, _, .nil => rfl
  | _, _, .cons _ t => by rw [List.length_cons, List.length_cons, RpA.len t]
theorem RpA.get : ∀ {vs : List V} {ds : List D} {i : Nat} {v : V}, RpA K F μ vs ds → vs[i]? = some v → ∃ d, ds[i]? = some d ∧ Rp K F μ v d
  | _, _, _, _, .nil, e => by simp at e
  | _, _, 0, _, .cons r _, e => by simp at e; subst e; exact ⟨_, rfl, r⟩
  | _, _, i + 1, v, .cons _ t, e => by
    obtain ⟨u, h1, h2⟩ := RpA.get (i := i) (v := v) t (by simpa using e)
    exact ⟨u, by simpa using h1, h2⟩
theorem RpA.getD : ∀ {vs : List V} {ds : List D} {i : Nat} {d : D}, RpA K F μ vs ds → ds[i]? = some d → ∃ v, vs[i]? = some v ∧ Rp K F μ v d
  | _, _, _, _, .nil, e => by simp at e
  | _, _, 0, _, .cons r _, e => by simp at e; subst e; exact ⟨_, rfl, r⟩
  | _, _, i + 1, v, .cons _ t, e => by
    obtain ⟨u, h1, h2⟩ := RpA.getD (i := i) t (by simpa using e)
    exact ⟨u, by simpa using h1, h2⟩
theorem RpA.app : ∀ {vs ws : List V} {ds es : List D}, RpA K F μ vs ds → RpA K F μ ws es → RpA K F μ (vs ++ ws) (ds ++ es)
  | _, _, _, _, .nil, s => s
  | _, _, _, _, .cons r t, s => .cons r (RpA.app t s)
theorem RpA.take : ∀ {vs : List V} {ds : List D} (n : Nat), RpA K F μ vs ds → RpA K F μ (vs.take n) (ds.take n)
  | _, _, 0, _ => .nil
  | _, _, _ + 1, .nil => .nil
  | _, _, n + 1, .cons r t => .cons r (RpA.take n t)
theorem RpA.drop : ∀ {vs : List V} {ds : List D} (n : Nat), RpA K F μ vs ds → RpA K F μ (vs.drop n) (ds.drop n)
  | _, _, 0, r => r
  | _, _, _ + 1, .nil => .nil
  | _, _, n + 1, .cons _ t => RpA.drop n t
theorem RpA.set {x : V} {u : D} (r : Rp K F μ x u) : ∀ {vs : List V} {ds : List D} (i : Nat), RpA K F μ vs ds → RpA K F μ (vs.set i x) (ds.set i u)
  | _, _, _, .nil => .nil
  | _, _, 0, .cons _ t => .cons r t
  | _, _, i + 1, .cons q t => .cons q (RpA.set r i t)
theorem RpA.rev : ∀ {vs : List V} {ds : List D}, RpA K F μ vs ds → RpA K F μ vs.reverse ds.reverse
  | _, _, .nil => .nil
  | _, _, .cons r t => by
    rw [List.reverse_cons, List.reverse_cons]
    exact (RpA.rev t).app (.cons r .nil)
end
structure Stp (F : Hp) (μ : List Addr) (H F' : Hp) (μ' : List Addr) (H' : Hp) : Prop where
  fr : Sub F F'
  mu : Ap μ μ'
  kp : ∀ a o, H a = some o → a ∉ μ → H' a = some o
  tr : ∀ a, H' a = none → H a = none
  nf : ∀ a o, F' a = some o → F a = some o ∨ H a = none ∨ a ∉ μ ∧ ∃ vs, H a = some (.tup vs)
  nm : ∀ a, a ∈ μ' → a ∈ μ ∨ H a = none
theorem Stp.refl (F : Hp) (μ : List Addr) (H : Hp) : Stp F μ H F μ H := ⟨.refl F, .refl μ, fun _ _ h _ => h, fun _ h => h, fun _ _ h => .inl h, fun _ h => .inl h⟩
theorem Stp.trans {F F1 F2 H H1 H2 : Hp} {μ μ1 μ2 : List Addr} (a : Stp F μ H F1 μ1 H1) (b : Stp F1 μ1 H1 F2 μ2 H2) : Stp F μ H F2 μ2 H2 where
  fr := a.fr.trans b.fr
  mu := a.mu.trans b.mu
  kp := fun x o h n => b.kp x o (a.kp x o h n) fun hm => (a.nm x hm).elim n fun z => by rw [h] at z; cases z
  tr := fun x h => a.tr x (b.tr x h)
  nf := fun x o h => by
    rcases b.nf x o h with z | z | ⟨n, vs, e⟩
    · exact a.nf x o z
    · exact .inr (.inl (a.tr x z))
    · have nm : x ∉ μ := fun m => n (a.mu.mem m)
      cases q : H x with
      | none => exact .inr (.inl rfl)
      | some u =>
        have := a.kp x u q nm
        rw [e] at this
        cases this
        exact .inr (.inr ⟨nm, vs, rfl⟩)
  nm := fun x h => (b.nm x h).elim (fun z => a.nm x z) fun z => .inr (a.tr x z)
def MoR (K : PySem.W.Frag) (F : Hp) (μ : List Addr) (o : Option HO) : MO → Prop
  | .lst ds => ∃ vs, o = some (.lst vs) ∧ RpA K F μ vs ds
  | .ins c ds => ∃ dx fs, o = some (.ins (cA K c) dx fs) ∧ fs.map (·.1) = (clF c).take ds.length ∧ RpA K F μ (fs.map (·.2)) ds
theorem MoR.mono {K : PySem.W.Frag} {F F' : Hp} {μ μ' : List Addr} (e : Sub F F') (m : Ap μ μ') {o : Option HO} : ∀ {x : MO}, MoR K F μ o x → MoR K F' μ' o x
  | .lst _, ⟨vs, h, r⟩ => ⟨vs, h, r.mono e m⟩
  | .ins _ _, ⟨dx, fs, h, n, r⟩ => ⟨dx, fs, h, n, r.mono e m⟩
structure Ok (K : PySem.W.Frag) (F : Hp) (μ : List Addr) (S : Ms) (H : Hp) : Prop where
  sub : Sub F H
  fm : ∀ a, a ∈ μ → F a = none
  nd : μ.Nodup
  ln : S.length = μ.length
  mr : ∀ (n : Nat) (a : Addr) (o : MO), μ[n]? = some a → S[n]? = some o → MoR K F μ (H a) o
structure Bs where
  F : Hp
  μ : List Addr
  H : Hp
  A : Hp
  α : List Addr
  pn : Nat → Option Addr
def SR (K : PySem.W.Frag) (B : Bs) (F : Hp) (μ : List Addr) (H : Hp) (o : Option V) : Sl → Prop
  | .no => True
  | .pl d => ∃ v, o = some v ∧ Rp K F μ v d
  | .own ds => ∃ p vs, o = some (.ref p) ∧ H p = some (.lst vs) ∧ RpA K F μ vs ds ∧ F p = none ∧ p ∉ μ ∧ B.H p = none
  | .bor ds => ∃ p vs, o = some (.ref p) ∧ B.H p = some (.lst vs) ∧ RpA K F μ vs ds ∧ p ∉ B.μ
  | .od ks ds => ∃ p, o = some (.ref p) ∧ F p = none ∧ p ∉ μ ∧ B.H p = none ∧ ((∃ kvs, H p = some (.dK kvs) ∧ ks = kvs.map (fun q => keyD q.1) ∧ RpA K F μ (kvs.map (·.2)) ds) ∨
      ∃ kvs, H p = some (.dT kvs) ∧ ks = .non :: kvs.map (fun q => .tup (q.1.map keyD)) ∧ RpA K F μ (kvs.map (·.2)) ds)
  | .oin _ ds => ∃ p od kvs, o = some (.ref p) ∧ H p = some (.frz od (.dT kvs)) ∧ F p = none ∧ p ∉ μ ∧ ∃ ks vs, ds = [.dct ks vs] ∧ ks = .non :: kvs.map (fun q => D.tup (q.1.map keyD)) ∧ RpA K F μ (kvs.map (·.2)) vs ∧ B.H p = some (.frz od (.dT kvs)) ∧ p ∉ B.μ
def isOwn : Sl → Bool
  | .own _ => true
  | .od _ _ => true
  | .oin _ _ => true
  | _ => false
theorem Stp.noF {F F' H H' : Hp} {μ μ' : List Addr} (t : Stp F μ H F' μ' H') {p : Addr} {o : HO} (h : H p = some o) (n : F p = none) (ht : ∀ vs, o ≠ .tup vs := by intro _ z; cases z) : F' p = none := by
  cases q : F' p with
  | none => rfl
  | some u =>
    rcases t.nf p u q with z | z | ⟨_, vs, z⟩
    · rw [n] at z; cases z
    · rw [h] at z; cases z
    · rw [h] at z; cases z; exact (ht _ rfl).elim
theorem Stp.noM {F F' H H' : Hp} {μ μ' : List Addr} (t : Stp F μ H F' μ' H') {p : Addr} {o : HO} (h : H p = some o) (m : p ∉ μ) : p ∉ μ' := fun hm => (t.nm p hm).elim m fun z => by rw [h] at z; cases z
theorem SR.go {K : PySem.W.Frag} {B : Bs} {F F' H H' : Hp} {μ μ' : List Addr} {o : Option V} (t : Stp F μ H F' μ' H') : ∀ {s : Sl}, SR K B F μ H o s → SR K B F' μ' H' o s
  | .no, _ => trivial
  | .pl _, ⟨v, e, r⟩ => ⟨v, e, r.mono t.fr t.mu⟩
  | .own _, ⟨p, vs, e, h, r, n, m, b⟩ => ⟨p, vs, e, t.kp _ _ h m, r.mono t.fr t.mu, t.noF h n, t.noM h m, b⟩
  | .bor _, ⟨p, vs, e, h, r, m⟩ => ⟨p, vs, e, h, r.mono t.fr t.mu, m⟩
  | .od _ _, ⟨p, e, n, m, b, .inl ⟨kvs, h, e1, r⟩⟩ => ⟨p, e, t.noF h n, t.noM h m, b, .inl ⟨kvs, t.kp _ _ h m, e1, r.mono t.fr t.mu⟩⟩
  | .od _ _, ⟨p, e, n, m, b, .inr ⟨kvs, h, e1, r⟩⟩ => ⟨p, e, t.noF h n, t.noM h m, b, .inr ⟨kvs, t.kp _ _ h m, e1, r.mono t.fr t.mu⟩⟩
  | .oin _ _, ⟨p, od, kvs, e, h, n, m, ks, vs, e1, e2, r, b1, b2⟩ => ⟨p, od, kvs, e, t.kp _ _ h m, t.noF h n, t.noM h m, ks, vs, e1, e2, r.mono t.fr t.mu, b1, b2⟩
structure StR (K : PySem.W.Frag) (B : Bs) (F : Hp) (μ : List Addr) (S : Ms) (δ : Evm) (σ : L2.St) (H : Hp) : Prop where
  ok : Ok K F μ S H
  st : Stp B.F B.μ B.H F μ H
  len : σ.length = δ.length
  sl : ∀ (i : Nat) (s : Sl), δ[i]? = some s → SR K B F μ H (σ[i]?.join) s
  dj : ∀ (i j : Nat) (s t : Sl) (p : Addr), δ[i]? = some s → δ[j]? = some t → isOwn s = true → isOwn t = true → σ[i]? = some (some (.ref p)) → σ[j]? = some (some (.ref p)) → i = j
  an : Sub B.A F
  am : Ap B.α μ
  pn : ∀ (j : Nat) (p : Addr) (ds : List D), B.pn j = some p → δ[j]? = some (.bor ds) → σ[j]? = some (some (.ref p))
theorem StR.go {K : PySem.W.Frag} {B : Bs} {F F' : Hp} {μ μ' : List Addr} {S S' : Ms} {δ : Evm} {σ : L2.St} {H H' : Hp} (h : StR K B F μ S δ σ H) (t : Stp F μ H F' μ' H') (o : Ok K F' μ' S' H') : StR K B F' μ' S' δ σ H' :=
  ⟨o, h.st.trans t, h.len, fun i s e => (h.sl i s e).go t, h.dj, h.an.trans t.fr, h.am.trans t.mu, h.pn⟩
def VR (K : PySem.W.Frag) (H : Hp) (σ : L2.St) (δ : Evm) (F' : Hp) (μ' : List Addr) (H' : Hp) (v : V) : Sl → Prop
  | .pl d => Rp K F' μ' v d
  | .own ds => ∃ p vs, v = .ref p ∧ H' p = some (.lst vs) ∧ RpA K F' μ' vs ds ∧ F' p = none ∧ p ∉ μ' ∧ H p = none
  | .bor ds => ∃ i : Nat, σ[i]? = some (some v) ∧ (δ[i]? = some (Sl.own ds) ∨ δ[i]? = some (Sl.bor ds))
  | .od ks ds => ∃ p, v = .ref p ∧ F' p = none ∧ p ∉ μ' ∧ H p = none ∧ ((∃ kvs, H' p = some (.dK kvs) ∧ ks = kvs.map (fun q => keyD q.1) ∧ RpA K F' μ' (kvs.map (·.2)) ds) ∨
      ∃ kvs, H' p = some (.dT kvs) ∧ ks = .non :: kvs.map (fun q => .tup (q.1.map keyD)) ∧ RpA K F' μ' (kvs.map (·.2)) ds)
  | _ => False
def XR (K : PySem.W.Frag) (F : Hp) (μ : List Addr) (H : Hp) (d : Option Addr) (x : Xn) : Prop :=
  (x.fs = [] ∧ d = none) ∨ ∃ dx fs, d = some dx ∧ H dx = some (.xd fs) ∧ fs.map (·.1) = clF x.c ∧ RpA K F μ (fs.map (·.2)) x.fs
def OE (K : PySem.W.Frag) (W : WX) (F : Hp) (μ : List Addr) (H : Hp) (σ : L2.St) (δ : Evm) (Q : VK) : Rs Sl → Prop
  | .ok s S' => ∀ F' μ' H' v, Stp F μ H F' μ' H' → Ok K F' μ' S' H' → VR K H σ δ F' μ' H' v s → Q v H'
  | .ex x S' => ∀ F' μ' H' d, Stp F μ H F' μ' H' → Ok K F' μ' S' H' → XR K F' μ' H' d x → W (.ref (cA K x.c)) d σ H'
  | .st => False
def wE (K : PySem.W.Frag) (W : WX) (f : Fe) : TE := fun σ H Q => ∃ B F μ S δ, StR K B F μ S δ σ H ∧ OE K W F μ H σ δ Q (f δ S)
def OT (K : PySem.W.Frag) (W : WX) (F : Hp) (μ : List Addr) (H : Hp) (σ : L2.St) (Q : Bool → Hp → Prop) : Rs Bool → Prop
  | .ok b S' => ∀ F' μ' H', Stp F μ H F' μ' H' → Ok K F' μ' S' H' → Q b H'
  | .ex x S' => ∀ F' μ' H' d, Stp F μ H F' μ' H' → Ok K F' μ' S' H' → XR K F' μ' H' d x → W (.ref (cA K x.c)) d σ H'
  | .st => False
def wT (K : PySem.W.Frag) (W : WX) (f : Ft) : TT := fun σ H Q => ∃ B F μ S δ, StR K B F μ S δ σ H ∧ OT K W F μ H σ Q (f δ S)
def VA (K : PySem.W.Frag) (σ : L2.St) (δ : Evm) (F' : Hp) (μ' : List Addr) (v : V) : Sl → Prop
  | .pl d => Rp K F' μ' v d
  | .bor ds => ∃ i : Nat, σ[i]? = some (some v) ∧ (δ[i]? = some (Sl.own ds) ∨ δ[i]? = some (Sl.bor ds))
  | _ => False
def VAs (K : PySem.W.Frag) (σ : L2.St) (δ : Evm) (F' : Hp) (μ' : List Addr) : List V → List Sl → Prop := Paired (VA K σ δ F' μ')
def OA (K : PySem.W.Frag) (W : WX) (F : Hp) (μ : List Addr) (H : Hp) (σ : L2.St) (δ : Evm) (Q : List V → Hp → Prop) : Rs (List Sl) → Prop
  | .ok ss S' => ∀ F' μ' H' vs, Stp F μ H F' μ' H' → Ok K F' μ' S' H' → VAs K σ δ F' μ' vs ss → Q vs H'
  | .ex x S' => ∀ F' μ' H' d, Stp F μ H F' μ' H' → Ok K F' μ' S' H' → XR K F' μ' H' d x → W (.ref (cA K x.c)) d σ H'
  | .st => False
def wA (K : PySem.W.Frag) (W : WX) (f : Fa) : TA := fun σ H Q => ∃ B F μ S δ, StR K B F μ S δ σ H ∧ OA K W F μ H σ δ Q (f δ S)
def OS (K : PySem.W.Frag) (W : WX) (B : Bs) (D : Ends) : Rs Fl → Prop
  | .ok (.nx δ) S => ∀ F μ σ H, StR K B F μ S δ σ H → D.nx σ H
  | .ok (.bk δ) S => ∀ F μ σ H, StR K B F μ S δ σ H → D.bk σ H
  | .ok (.ct δ) S => ∀ F μ σ H, StR K B F μ S δ σ H → D.ct σ H
  | .ok (.rt r) S => ∀ F μ H v, Stp B.F B.μ B.H F μ H → Ok K F μ S H → VR K B.H [] [] F μ H v r → D.rt v H
  | .ex x S => ∀ F μ H σ d, Stp B.F B.μ B.H F μ H → Ok K F μ S H → XR K F μ H d x → W (.ref (cA K x.c)) d σ H
  | .st => False
def wS (K : PySem.W.Frag) (W : WX) (f : Fs) : TS := fun D σ H => ∃ B F μ S δ, StR K B F μ S δ σ H ∧ OS K W B D (f δ S)
end Gt
set_option Elab.async false
set_option linter.all false
set_option maxRecDepth 100000
namespace Gt
open PySem PySem.Spec PyProof.Rows L2
theorem PE.imp {X : Cx} {e : Expr} {t t' : TE} (h : PE X e t) (i : ∀ σ H Q, t' σ H Q → t σ H Q) : PE X e t' := ⟨fun pins s σ H Q I q => h.run pins s σ H Q I (i σ H Q q)⟩
theorem PT.imp {X : Cx} {e : Expr} {t t' : TT} (h : PT X e t) (i : ∀ σ H Q, t' σ H Q → t σ H Q) : PT X e t' := ⟨fun pins s σ H Q I q => h.run pins s σ H Q I (i σ H Q q)⟩
theorem PA.imp {X : Cx} {es : List Expr} {t t' : TA} (h : PA X es t) (i : ∀ σ H Q, t' σ H Q → t σ H Q) : PA X es t' := ⟨fun pos pins s σ H Q I q => h.run pos pins s σ H Q I (i σ H Q q)⟩
theorem PS.imp {X : Cx} {e : Stmt} {t t' : TS} (h : PS X e t) (i : ∀ D σ H, t' D σ H → t D σ H) : PS X e t' := ⟨fun pins s σ H D I q => h.run pins s σ H D I (i D σ H q)⟩
theorem PSs.imp {X : Cx} {e : List Stmt} {t t' : TS} (h : PSs X e t) (i : ∀ D σ H, t' D σ H → t D σ H) : PSs X e t' := ⟨fun pins s σ H D I q => h.run pins s σ H D I (i D σ H q)⟩
abbrev SE (X : Cx) (W : WX) (e : Expr) (f : Fe) : Prop := PE X e (wE X.K W f)
abbrev ST (X : Cx) (W : WX) (e : Expr) (f : Ft) : Prop := PT X e (wT X.K W f)
abbrev SA (X : Cx) (W : WX) (es : List Expr) (f : Fa) : Prop := PA X es (wA X.K W f)
abbrev SS (X : Cx) (W : WX) (e : Stmt) (f : Fs) : Prop := PS X e (wS X.K W f)
abbrev SL (X : Cx) (W : WX) (e : List Stmt) (f : Fs) : Prop := PSs X e (wS X.K W f)
section
variable {K : PySem.W.Frag} {W : WX} {B : Bs} {F F' H H' : Hp} {μ μ' : List Addr} {S S' : Ms} {δ : Evm} {σ : L2.St} {Q : VK}
theorem VR.of_nil {F1 H1 : Hp} {μ1 : List Addr} {v : V} : ∀ {s : Sl}, VR K H [] [] F1 μ1 H1 v s → VR K H σ δ F1 μ1 H1 v s
  | .no, h => h
  | .pl _, h => h
  | .own _, h => h
  | .od _ _, h => h
  | .oin _ _, h => h
  | .bor _, ⟨_, e, _⟩ => by simp at e
theorem VR.back (t : Stp F μ H F' μ' H') {F1 H1 : Hp} {μ1 : List Addr} {v : V} : ∀ {s : Sl}, VR K H' σ δ F1 μ1 H1 v s → VR K H σ δ F1 μ1 H1 v s
  | .no, h => h
  | .pl _, h => h
  | .bor _, h => h
  | .oin _ _, h => h
  | .own _, ⟨p, vs, e, a, b, c, d, n⟩ => ⟨p, vs, e, a, b, c, d, t.tr _ n⟩
  | .od _ _, ⟨p, e, a, b, n, h⟩ => ⟨p, e, a, b, t.tr _ n, h⟩
theorem OE.go (t : Stp F μ H F' μ' H') : ∀ {r : Rs Sl}, OE K W F μ H σ δ Q r → OE K W F' μ' H' σ δ Q r
  | .ok _ _, h => fun F1 μ1 H1 v t1 o1 r => h F1 μ1 H1 v (t.trans t1) o1 (r.back t)
  | .ex _ _, h => fun F1 μ1 H1 d t1 o1 r => h F1 μ1 H1 d (t.trans t1) o1 r
  | .st, h => h
theorem OT.go (t : Stp F μ H F' μ' H') {Q : Bool → Hp → Prop} : ∀ {r : Rs Bool}, OT K W F μ H σ Q r → OT K W F' μ' H' σ Q r
  | .ok _ _, h => fun F1 μ1 H1 t1 o1 => h F1 μ1 H1 (t.trans t1) o1
  | .ex _ _, h => fun F1 μ1 H1 d t1 o1 r => h F1 μ1 H1 d (t.trans t1) o1 r
  | .st, h => h
theorem OA.go (t : Stp F μ H F' μ' H') {Q : List V → Hp → Prop} : ∀ {r : Rs (List Sl)}, OA K W F μ H σ δ Q r → OA K W F' μ' H' σ δ Q r
  | .ok _ _, h => fun F1 μ1 H1 v t1 o1 r => h F1 μ1 H1 v (t.trans t1) o1 r
  | .ex _ _, h => fun F1 μ1 H1 d t1 o1 r => h F1 μ1 H1 d (t.trans t1) o1 r
  | .st, h => h
theorem Ok.free (o : Ok K F μ S H) {p : Addr} (h : H p = none) : F p = none ∧ p ∉ μ := by
  refine ⟨o.sub.none h, fun hm => ?_⟩
  obtain ⟨n, hn, e⟩ := List.getElem_of_mem hm
  have e1 : μ[n]? = some p := by rw [List.getElem?_eq_getElem hn, e]
  have hs : n < S.length := by rw [o.ln]; exact hn
  have q := o.mr n p S[n] e1 (List.getElem?_eq_getElem hs)
  rw [h] at q
  cases hx : S[n] with
  | lst ds =>
    rw [hx] at q
    obtain ⟨_, z, _⟩ := q
    cases z
  | ins c ds =>
    rw [hx] at q
    obtain ⟨_, _, z, _⟩ := q
    cases z
theorem Ok.there (o : Ok K F μ S H) {a : Addr} (h : a ∈ μ) : H a ≠ none := fun z => (o.free z).2 h
theorem Stp.new (o : Ok K F μ S H) {p : Addr} {u : HO} (h : H p = none) : Stp F μ H F μ (upd H p u) :=
  ⟨.refl F, .refl μ, fun a x e _ => by rw [upd_ne (ne_of_none e h)]; exact e, fun a e => by
    by_cases q : a = p
    · subst q; exact h
    · rw [upd_ne q] at e; exact e, fun _ _ z => .inl z, fun _ z => .inl z⟩
theorem Stp.newF (o : Ok K F μ S H) {p : Addr} {u : HO} (h : H p = none) : Stp F μ H (upd F p u) μ (upd H p u) :=
  ⟨Sub.new (o.free h).1, .refl μ, fun a x e _ => by rw [upd_ne (ne_of_none e h)]; exact e, fun a e => by
    by_cases q : a = p
    · subst q; exact h
    · rw [upd_ne q] at e; exact e, fun a x z => by
      by_cases q : a = p
      · subst q; exact .inr (.inl h)
      · rw [upd_ne q] at z; exact .inl z, fun _ z => .inl z⟩
theorem Ok.new (o : Ok K F μ S H) {p : Addr} {u : HO} (h : H p = none) : Ok K F μ S (upd H p u) :=
  ⟨fun a x e => by rw [upd_ne (ne_of_none (o.sub a x e) h)]; exact o.sub a x e, o.fm, o.nd, o.ln, fun n a x e1 e2 => by
    have ne : a ≠ p := fun z => by subst z; exact (o.free h).2 (List.mem_of_getElem? e1)
    rw [upd_ne ne]
    exact o.mr n a x e1 e2⟩
theorem Ok.newF (o : Ok K F μ S H) {p : Addr} {u : HO} (h : H p = none) : Ok K (upd F p u) μ S (upd H p u) :=
  ⟨fun a x e => by
    by_cases q : a = p
    · subst q; rw [upd_same] at e; cases e; exact upd_same
    · rw [upd_ne q] at e ⊢; exact o.sub a x e, fun a m => by
    have ne : a ≠ p := fun z => by subst z; exact (o.free h).2 m
    rw [upd_ne ne]; exact o.fm a m, o.nd, o.ln, fun n a x e1 e2 => by
    have ne : a ≠ p := fun z => by subst z; exact (o.free h).2 (List.mem_of_getElem? e1)
    rw [upd_ne ne]
    exact (o.mr n a x e1 e2).mono (Sub.new (o.free h).1) (.refl μ)⟩
theorem freeze (t : Stp F μ H F' μ' H') (o : Ok K F' μ' S H') {p : Addr} {u : HO} (h : H' p = some u) (hn : H p = none) (nF : F' p = none) (nM : p ∉ μ') : Stp F μ H (upd F' p u) μ' H' ∧ Ok K (upd F' p u) μ' S H' := by
  refine ⟨⟨t.fr.trans (Sub.new nF), t.mu, t.kp, t.tr, fun a x e => ?_, t.nm⟩, ⟨fun a x e => ?_, fun a m => ?_, o.nd, o.ln, fun n a x e1 e2 => (o.mr n a x e1 e2).mono (Sub.new nF) (.refl _)⟩⟩
  · by_cases q : a = p
    · subst q; exact .inr (.inl hn)
    · rw [upd_ne q] at e; exact t.nf a x e
  · by_cases q : a = p
    · subst q; rw [upd_same] at e; cases e; exact h
    · rw [upd_ne q] at e; exact o.sub a x e
  · have ne : a ≠ p := fun z => by subst z; exact nM m
    rw [upd_ne ne]; exact o.fm a m
def toD : Sl → Option D
  | .pl d => some d
  | .own xs => some (.lst xs)
  | .bor xs => some (.lst xs)
  | .od ks vs => some (.dct ks vs)
  | _ => none
def lift (o : Option Sl) (S : Ms) : Rs Sl := match o with
  | some s => .ok s S
  | none => .st
@[simp] theorem lift_some {s : Sl} {S : Ms} : lift (some s) S = .ok s S := rfl
@[simp] theorem lift_none {S : Ms} : lift none S = .st := rfl
def rd1 (r : Rs Sl) : Rs D := r.bind fun a S => match toD a with
  | some d => .ok d S
  | none => .st
def rd (f : Fe) : Evm → Ms → Rs D := fun δ S => rd1 (f δ S)
@[simp] theorem rd1_pl {d : D} {S : Ms} : rd1 (.ok (.pl d) S) = .ok d S := rfl
@[simp] theorem rd1_own {xs : List D} {S : Ms} : rd1 (.ok (.own xs) S) = .ok (.lst xs) S := rfl
@[simp] theorem rd1_bor {xs : List D} {S : Ms} : rd1 (.ok (.bor xs) S) = .ok (.lst xs) S := rfl
@[simp] theorem rd1_od {ks vs : List D} {S : Ms} : rd1 (.ok (.od ks vs) S) = .ok (.dct ks vs) S := rfl
@[simp] theorem rd1_ex {x : Xn} {S : Ms} : rd1 (.ex x S) = .ex x S := rfl
@[simp] theorem rd1_st : rd1 .st = .st := rfl
def VD (K : PySem.W.Frag) (σ : L2.St) (δ : Evm) (F : Hp) (μ : List Addr) (v : V) (d : D) : Prop :=
  Rp K F μ v d ∨ ∃ (ds : List D) (i : Nat), d = .lst ds ∧ σ[i]? = some (some v) ∧ (δ[i]? = some (Sl.own ds) ∨ δ[i]? = some (Sl.bor ds))
theorem VD.go (t : Stp F μ H F' μ' H') {v : V} {d : D} : VD K σ δ F μ v d → VD K σ δ F' μ' v d
  | .inl h => .inl (h.mono t.fr t.mu)
  | .inr h => .inr h
def RR (K : PySem.W.Frag) (F : Hp) (μ : List Addr) (H : Hp) (v : V) (d : D) : Prop :=
  Rp K F μ v d ∨ ∃ ds p vs, d = .lst ds ∧ v = .ref p ∧ H p = some (.lst vs) ∧ RpA K F μ vs ds
theorem VD.rr (h : StR K B F μ S δ σ H) {v : V} {d : D} : VD K σ δ F μ v d → RR K F μ H v d
  | .inl q => .inl q
  | .inr ⟨ds, i, e, e1, .inl e2⟩ => by
    obtain ⟨p, vs, ho, hp, r, _⟩ := h.sl i _ e2
    rw [e1] at ho
    cases ho
    exact .inr ⟨ds, p, vs, e, rfl, hp, r⟩
  | .inr ⟨ds, i, e, e1, .inr e2⟩ => by
    obtain ⟨p, vs, ho, hp, r, m⟩ := h.sl i _ e2
    rw [e1] at ho
    cases ho
    exact .inr ⟨ds, p, vs, e, rfl, h.st.kp _ _ hp m, r⟩
theorem RR.toH (s : Sub F H) {v : V} {d : D} : RR K F μ H v d → Rp K H μ v d
  | .inl h => h.mono s (.refl μ)
  | .inr ⟨ds, p, vs, e1, e2, h, r⟩ => by
    subst e1 e2
    exact .lst h (r.mono s (.refl μ))
theorem RR.lst (s : Sub F H) {v : V} {ds : List D} (h : RR K F μ H v (.lst ds)) : ∃ p vs, v = .ref p ∧ H p = some (.lst vs) ∧ RpA K F μ vs ds := by
  rcases h with h | ⟨ds', p, vs, e1, e2, h, r⟩
  · cases h with
    | lst hq r => exact ⟨_, _, rfl, s _ _ hq, r⟩
  · cases e1
    exact ⟨p, vs, e2, h, r⟩
theorem RR.tup (s : Sub F H) {v : V} {ds : List D} (h : RR K F μ H v (.tup ds)) : ∃ p vs, v = .ref p ∧ SqT K H p vs ∧ RpA K F μ vs ds := by
  rcases h with h | ⟨ds', p, vs, e1, e2, h, r⟩
  · cases h with
    | tup hq r => exact ⟨_, _, rfl, SqT.of (s _ _ hq), r⟩
  · cases e1
theorem RR.int {v : V} {i : Int} (h : RR K F μ H v (.int i)) : v = .int i := by
  rcases h with h | ⟨ds', p, vs, e1, e2, h, r⟩
  · cases h; rfl
  · cases e1
theorem RR.bl {v : V} {i : Bool} (h : RR K F μ H v (.bl i)) : v = .bl i := by
  rcases h with h | ⟨ds', p, vs, e1, e2, h, r⟩
  · cases h; rfl
  · cases e1
theorem RR.str {v : V} {i : Str} (h : RR K F μ H v (.str i)) : v = .str i := by
  rcases h with h | ⟨ds', p, vs, e1, e2, h, r⟩
  · cases h; rfl
  · cases e1
theorem RR.non {v : V} (h : RR K F μ H v .non) : v = .non := by
  rcases h with h | ⟨ds', p, vs, e1, e2, h, r⟩
  · cases h; rfl
  · cases e1
theorem wE_rd {f : Fe} {k : D → Ms → Rs Sl} {Q0 : VK} {Q : VK} (hs : StR K B F μ S δ σ H) (ho : OE K W F μ H σ δ Q0 ((rd f δ S).bind k))
    (hk : ∀ d S1 F1 μ1 H1 v, Stp F μ H F1 μ1 H1 → StR K B F1 μ1 S1 δ σ H1 → VD K σ δ F1 μ1 v d → OE K W F1 μ1 H1 σ δ Q0 (k d S1) → Q v H1) : wE K W f σ H Q := by
  refine ⟨B, F, μ, S, δ, hs, ?_⟩
  unfold rd at ho
  cases e : f δ S with
  | st => rw [e] at ho; exact ho
  | ex x S1 => rw [e] at ho; exact ho
  | ok s S1 =>
    rw [e] at ho
    cases s with
    | no => exact False.elim ho
    | oin _ _ => exact False.elim ho
    | pl d => exact fun F1 μ1 H1 v t o r => hk d S1 F1 μ1 H1 v t (hs.go t o) (.inl r) (OE.go (r := k d S1) t ho)
    | bor ds => exact fun F1 μ1 H1 v t o ⟨i, r1, r2⟩ => hk (.lst ds) S1 F1 μ1 H1 v t (hs.go t o) (.inr ⟨ds, i, rfl, r1, r2⟩) (OE.go (r := k (.lst ds) S1) t ho)
    | own ds =>
      rintro F1 μ1 H1 v t o ⟨p, vs, rfl, h, r, nF, nM, hn⟩
      obtain ⟨t2, o2⟩ := freeze t o h hn nF nM
      exact hk (.lst ds) S1 _ μ1 H1 _ t2 (hs.go t2 o2) (.inl (.lst upd_same (r.mono (Sub.new nF) (.refl _)))) (OE.go (r := k (.lst ds) S1) t2 ho)
    | od ks ds =>
      rintro F1 μ1 H1 v t o ⟨p, rfl, nF, nM, hn, h⟩
      rcases h with ⟨kvs, h, rfl, r⟩ | ⟨kvs, h, rfl, r⟩
      · obtain ⟨t2, o2⟩ := freeze t o h hn nF nM
        exact hk (.dct _ ds) S1 _ μ1 H1 _ t2 (hs.go t2 o2) (.inl (.dctK upd_same (r.mono (Sub.new nF) (.refl _)))) (OE.go (r := k (.dct _ ds) S1) t2 ho)
      · obtain ⟨t2, o2⟩ := freeze t o h hn nF nM
        exact hk (.dct _ ds) S1 _ μ1 H1 _ t2 (hs.go t2 o2) (.inl (.dctT upd_same (r.mono (Sub.new nF) (.refl _)))) (OE.go (r := k (.dct _ ds) S1) t2 ho)
theorem OE.same (o : Ok K F μ S H) {v : V} {s : Sl} (h : OE K W F μ H σ δ Q (.ok s S)) (r : VR K H σ δ F μ H v s) : Q v H := h F μ H v (.refl _ _ _) o r
end
section
variable {X : Cx} {W : WX} {a b c : Expr} {fa fb fc : Fe} {pos : Pos}
def eC (d : D) : Fe := fun _ S => .ok (.pl d) S
@[simp] theorem eC_ev {d : D} {δ : Evm} {S : Ms} : eC d δ S = .ok (.pl d) S := rfl
theorem se_c {e : Expr} {v : V} {d : D} (h : PE X e (tC v)) (r : ∀ F μ, Rp X.K F μ v d) : SE X W e (eC d) := PE.imp h fun σ H Q ⟨B, F, μ, S, δ, hs, ho⟩ => ho.same hs.ok (r F μ)
theorem se_int {i j} : SE X W (.Constant (.int i) j pos) (eC (.int i)) := se_c pe_int fun _ _ => .int i
theorem se_bl {i j} : SE X W (.Constant (.bool i) j pos) (eC (.bl i)) := se_c pe_bl fun _ _ => .bl i
theorem se_non {j} : SE X W (.Constant .none j pos) (eC .non) := se_c pe_non fun _ _ => .non
theorem se_str {x j} : SE X W (.Constant (.str x) j pos) (eC (.str x)) := se_c pe_str fun _ _ => .str x
theorem se_gint {x : Str} {i : Int} {t : Tok} (hg : Gl X x) (hm : X.mg x = some (.int i t)) (hd : (x == ("__debug__" : Str)) = false := by decide) : SE X W (.Name x pos) (eC (.int i)) := se_c (pe_glob (v := .int i) hg hm ⟨_, rfl⟩ hd) fun _ _ => .int i
theorem se_gstr {x z : Str} {t : Tok} (hg : Gl X x) (hm : X.mg x = some (.str z t)) (hd : (x == ("__debug__" : Str)) = false := by decide) : SE X W (.Name x pos) (eC (.str z)) := se_c (pe_glob (v := .str z) hg hm ⟨_, rfl⟩ hd) fun _ _ => .str z
def rdS : Sl → Option Sl
  | .pl d => some (.pl d)
  | .own xs => some (.bor xs)
  | .bor xs => some (.bor xs)
  | _ => none
def eV (i : Nat) : Fe := fun δ S => match δ[i]? with
  | some (.pl d) => .ok (.pl d) S
  | some (.own xs) => .ok (.bor xs) S
  | some (.bor xs) => .ok (.bor xs) S
  | _ => .st
theorem se_var (i : Nat) {x : Str} (h : PE X (.Name x pos) (tVar i)) : SE X W (.Name x pos) (eV i) := PE.imp h fun σ H Q ⟨B, F, μ, S, δ, hs, ho⟩ => by
  unfold eV at ho
  cases e : δ[i]? with
  | none => rw [e] at ho; exact ho.elim
  | some s =>
    rw [e] at ho
    have q := hs.sl i s e
    have hl : i < σ.length := by rw [hs.len]; exact (List.getElem?_eq_some_iff.mp e).1
    have at_ : ∀ v, σ[i]?.join = some v → σ[i]? = some (some v) := fun v z => by
      rw [List.getElem?_eq_getElem hl] at z ⊢
      exact congrArg some z
    cases s with
    | no => exact ho.elim
    | od _ _ => exact ho.elim
    | oin _ _ => exact ho.elim
    | pl d =>
      obtain ⟨v, z, r⟩ := q
      exact ⟨v, at_ v z, ho.same hs.ok r⟩
    | own ds =>
      obtain ⟨p, vs, z, _⟩ := q
      exact ⟨_, at_ _ z, ho.same hs.ok ⟨i, at_ _ z, .inl e⟩⟩
    | bor ds =>
      obtain ⟨p, vs, z, _⟩ := q
      exact ⟨_, at_ _ z, ho.same hs.ok ⟨i, at_ _ z, .inr e⟩⟩
def eB (g : D → D → Option Sl) (fa fb : Fe) : Fe := fun δ S => (rd fa δ S).bind fun x S => (rd fb δ S).bind fun y S => lift (g x y) S
def G2 (K : PySem.W.Frag) (r : R2) (g : D → D → Option Sl) : Prop := ∀ {F : Hp} {μ : List Addr} {S : Ms} {H : Hp} {x y : V} {dx dy : D} {s : Sl} {Q : VK}, Ok K F μ S H → RR K F μ H x dx → RR K F μ H y dy → g dx dy = some s →
  (∀ F' μ' H' v, Stp F μ H F' μ' H' → Ok K F' μ' S H' → VR K H [] [] F' μ' H' v s → Q v H') → r x y H Q
theorem tOp_of {r : R2} {g : D → D → Option Sl} {K : PySem.W.Frag} (hg : G2 K r g) {σ : L2.St} {H : Hp} {Q : VK} (h : wE K W (eB g fa fb) σ H Q) : tOp r (wE K W fa) (wE K W fb) σ H Q := by
  obtain ⟨B, F, μ, S, δ, hs, ho⟩ := h
  refine wE_rd hs ho fun x S1 F1 μ1 H1 v t1 h1 v1 o1 => wE_rd h1 o1 fun y S2 F2 μ2 H2 u t2 h2 v2 o2 => ?_
  cases e : g x y with
  | none => rw [e] at o2; exact o2.elim
  | some s =>
    rw [e] at o2
    exact hg h2.ok ((v1.go t2).rr h2) (v2.rr h2) e fun F3 μ3 H3 w t3 o3 r3 => o2 F3 μ3 H3 w t3 o3 r3.of_nil
theorem se_op {op : Operator} {r : R2} {g : D → D → Option Sl} (ho : OpR X (binaryOp op) r) (hg : G2 X.K r g) (ha : SE X W a fa) (hb : SE X W b fb) : SE X W (.BinOp a op b pos) (eB g fa fb) := PE.imp (pe_op ho ha hb) fun _ _ _ => tOp_of hg
theorem se_cmp {op : CmpOp} {r : R2} {g : D → D → Option Sl} (ho : OpR X (compareOp op) r) (hg : G2 X.K r g) (ha : SE X W a fa) (hb : SE X W b fb) (hm : behindInMarks op b = false) : SE X W (.Compare a [op] [b] pos) (eB g fa fb) := PE.imp (pe_cmpR ho ha hb hm) fun _ _ _ => tOp_of hg
theorem G2.or {K : PySem.W.Frag} {r r' : R2} {g g' : D → D → Option Sl} (h : G2 K r g) (h' : G2 K r' g') : G2 K (fun x y H Q => r x y H Q ∨ r' x y H Q) (fun x y => (g x y).or (g' x y)) := by
  intro F μ S H x y dx dy s Q o rx ry e k
  dsimp only at e
  cases q : g dx dy with
  | some z =>
    rw [q] at e
    cases e
    exact .inl (h o rx ry q k)
  | none =>
    rw [q] at e
    exact .inr (h' o rx ry e k)
end
end Gt
set_option Elab.async false
set_option linter.all false
set_option maxRecDepth 100000
namespace Gt
open PySem PySem.Spec PyProof.Rows L2
abbrev cap : Nat := 1000000
theorem cap_le {n : Nat} (h : n ≤ cap) : n ≤ sizeLine := Nat.le_trans h (by decide)
theorem cap_lt {n : Nat} (h : n < cap) : n < sizeLine := Nat.lt_of_lt_of_le h (by decide)
section
variable {K : PySem.W.Frag} {W : WX} {B : Bs} {F F' H H' : Hp} {μ μ' : List Addr} {S S' : Ms} {δ : Evm} {σ : L2.St} {Q : VK}
theorem end_pl (o : Ok K F μ S H) {v : V} {d : D} (r : ∀ F μ, Rp K F μ v d) (k : ∀ F' μ' H' v, Stp F μ H F' μ' H' → Ok K F' μ' S H' → VR K H [] [] F' μ' H' v (.pl d) → Q v H') : Q v H := k F μ H v (.refl _ _ _) o (r F μ)
theorem end_own (o : Ok K F μ S H) {p : Addr} {vs : List V} {ds : List D} (r : RpA K F μ vs ds) (h : H p = none) (k : ∀ F' μ' H' v, Stp F μ H F' μ' H' → Ok K F' μ' S H' → VR K H [] [] F' μ' H' v (.own ds) → Q v H') :
    Q (.ref p) (upd H p (.lst vs)) := k F μ _ _ (.new o h) (o.new h) ⟨p, vs, rfl, upd_same, r, (o.free h).1, (o.free h).2, h⟩
theorem end_tup (o : Ok K F μ S H) {p : Addr} {vs : List V} {ds : List D} (r : RpA K F μ vs ds) (h : H p = none) (k : ∀ F' μ' H' v, Stp F μ H F' μ' H' → Ok K F' μ' S H' → VR K H [] [] F' μ' H' v (.pl (.tup ds)) → Q v H') :
    Q (.ref p) (upd H p (.tup vs)) := k _ μ _ _ (.newF o h) (o.newF h) (.tup upd_same (r.mono (Sub.new (o.free h).1) (.refl μ)))
end
mutual
def toPy : D → PyData
  | .non => .none
  | .bl b => .bool b
  | .int i => .int i
  | .str x => .str x
  | .lst xs => .list (toPyA xs)
  | .tup xs => .tuple (toPyA xs)
  | _ => .none
def toPyA : List D → List PyData
  | [] => []
  | x :: xs => toPy x :: toPyA xs
end
mutual
def plainD : D → Bool
  | .lst xs => plainA xs
  | .tup xs => plainA xs
  | .non => true
  | .bl _ => true
  | .int _ => true
  | .str _ => true
  | _ => false
def plainA : List D → Bool
  | [] => true
  | x :: xs => plainD x && plainA xs
end
mutual
theorem Rp.dp {K : PySem.W.Frag} {H : Hp} {μ : List Addr} : ∀ {v : V} {d : D}, plainD d = true → Rp K H μ v d → Dp K H v (toPy d)
  | _, .non, _, .non => .non
  | _, .bl b, _, .bl _ => .bl b
  | _, .int i, _, .int _ => .int i
  | _, .str x, _, .str _ => .str x
  | _, .lst _, p, .lst h r => .lst (SqL.of h) (RpA.dp (by simpa [plainD] using p) r)
  | _, .tup _, p, .tup h r => .tup (SqT.of h) (RpA.dp (by simpa [plainD] using p) r)
theorem RpA.dp {K : PySem.W.Frag} {H : Hp} {μ : List Addr} : ∀ {vs : List V} {ds : List D}, plainA ds = true → RpA K H μ vs ds → DpAll K H vs (toPyA ds)
  | _, _, _, .nil => .nil
  | _ :: _, d :: ds, p, .cons h t => by
    have q : plainD d = true ∧ plainA ds = true := by simpa [plainA] using p
    exact .cons (Rp.dp q.1 h) (RpA.dp q.2 t)
end
def okp (d : D) : Bool := plainD d && SeqAt.shaped (toPy d)
theorem okp_iff {d : D} (h : okp d = true) : plainD d = true ∧ SeqAt.shaped (toPy d) = true := by simpa [okp] using h
def addS : D → D → Option Sl
  | .int i, .int j => some (.pl (.int (i + j)))
  | .str x, .str y => if x.length + y.length ≤ cap then some (.pl (.str (x ++ y))) else none
  | .lst a, .lst b => if a.length + b.length ≤ cap then some (.own (a ++ b)) else none
  | .tup a, .tup b => if a.length + b.length ≤ cap then some (.pl (.tup (a ++ b))) else none
  | _, _ => none
def subS : D → D → Option Sl
  | .int i, .int j => some (.pl (.int (i - j)))
  | _, _ => none
def smallI (i : Int) : Bool := decide (i.natAbs < 2 ^ 9000)
def mulS : D → D → Option Sl
  | .int i, .int j => if smallI i && smallI j then some (.pl (.int (i * j))) else none
  | .lst a, .int k => if a.length * k.toNat ≤ cap ∧ k ≤ 1000000000 ∧ -1000000000 ≤ k then some (.own (List.replicate k.toNat a).flatten) else none
  | _, _ => none
def fdivS : D → D → Option Sl
  | .int i, .int j => if decide (0 < j) && smallI j then some (.pl (.int (i / j))) else none
  | _, _ => none
def modS : D → D → Option Sl
  | .int i, .int j => if 0 < j then some (.pl (.int (i % j))) else none
  | _, _ => none
def powS : D → D → Option Sl
  | .int i, .int j => if 0 ≤ j ∧ j ≤ 1000 ∧ i.natAbs < 2 ^ 1000 then some (.pl (.int (i ^ j.toNat))) else none
  | _, _ => none
def isSS : D → D → Bool
  | .str _, .str _ => true
  | _, _ => false
def eqD (x y : D) : Option Bool := if isSS x y || (okp x && okp y) then some (PyData.eqv (toPy x) (toPy y)) else none
def blS (o : Option Bool) : Option Sl := o.map fun b => .pl (.bl b)
@[simp] theorem blS_some {b : Bool} : blS (some b) = some (.pl (.bl b)) := rfl
@[simp] theorem blS_none : blS none = none := rfl
def notO (o : Option Bool) : Option Bool := o.map fun b => !b
@[simp] theorem notO_some {b : Bool} : notO (some b) = some (!b) := rfl
@[simp] theorem notO_none : notO none = none := rfl
def eqS (x y : D) : Option Sl := blS (eqD x y)
def neS (x y : D) : Option Sl := blS (notO (eqD x y))
def ltI : D → D → Option Bool
  | .int i, .int j => some (decide (i < j))
  | .str x, .str y => some (decide (x.cps.toList < y.cps.toList))
  | _, _ => none
def leI : D → D → Option Bool
  | .int i, .int j => some (decide (i ≤ j))
  | .str x, .str y => some (!decide (y.cps.toList < x.cps.toList))
  | _, _ => none
def inD : D → D → Option Bool
  | x, .lst ys => if okp x && okp (.lst ys) then some (ys.any fun z => PyData.eqv (toPy z) (toPy x)) else none
  | x, .tup ys => if okp x && okp (.tup ys) then some (ys.any fun z => PyData.eqv (toPy z) (toPy x)) else none
  | .str x, .str z => match x.cps.toList with
    | [c] => some (decide (c ∈ z.cps.toList))
    | _ => none
  | _, _ => none
def isNon : D → Bool
  | .non => true
  | _ => false
section
variable {K : PySem.W.Frag} {W : WX} {B : Bs} {F F' H H' : Hp} {μ μ' : List Addr} {S S' : Ms} {δ : Evm} {σ : L2.St} {Q : VK}
abbrev rAddAny (K : PySem.W.Frag) : R2 := fun x y H Q => (rI0 (fun i j => V.int (i + j)) x y H Q ∨ (∃ i j, x = V.str i ∧ y = V.str j ∧ i.length + j.length ≤ sizeLine ∧ Q (V.str (i ++ j)) H)) ∨ (rCat x y H Q ∨ rCatA K x y H Q)
theorem op_addAny {X : Cx} : OpR X (binaryOp .Add) (rAddAny X.K) := OpR.or (OpR.or op_add op_add_str) (OpR.or op_cat op_catA)
theorem g_add : G2 K (rAddAny K) addS := by
  intro F μ S H x y dx dy s Q o rx ry e k
  cases dx <;> cases dy <;> simp only [addS, reduceCtorEq] at e
  case int.int i j =>
    cases e
    have hx := rx.int; have hy := ry.int
    subst hx hy
    exact .inl (.inl ⟨i, j, rfl, rfl, end_pl o (fun _ _ => .int _) k⟩)
  case str.str i j =>
    have hx := rx.str; have hy := ry.str
    subst hx hy
    split at e
    · rename_i c
      cases e
      exact .inl (.inr ⟨i, j, rfl, rfl, cap_le c, end_pl o (fun _ _ => .str _) k⟩)
    · cases e
  case lst.lst a b =>
    obtain ⟨p, vs, rfl, hp, r⟩ := rx.lst o.sub
    obtain ⟨q, ws, rfl, hq, r2⟩ := ry.lst o.sub
    split at e
    · rename_i c
      cases e
      refine .inr (.inl ⟨p, q, vs, ws, rfl, rfl, hp, hq, by rw [r.len, r2.len]; exact cap_le c, fun l hl => end_own o (r.app r2) hl k⟩)
    · cases e
  case tup.tup a b =>
    obtain ⟨p, vs, rfl, hp, r⟩ := rx.tup o.sub
    obtain ⟨q, ws, rfl, hq, r2⟩ := ry.tup o.sub
    split at e
    · rename_i c
      cases e
      refine .inr (.inr ⟨p, q, vs, ws, rfl, rfl, hp, hq, by rw [r.len, r2.len]; exact cap_le c, fun z => ?_, fun _ z => ?_, fun _ _ l hl => end_tup o (r.app r2) hl k⟩)
      · subst z
        cases r
        rcases ry with h | ⟨_, _, _, e1, _⟩
        · exact k F μ H _ (.refl _ _ _) o h
        · cases e1
      · subst z
        cases r2
        rw [List.append_nil] at k
        rcases rx with h | ⟨_, _, _, e1, _⟩
        · exact k F μ H _ (.refl _ _ _) o h
        · cases e1
    · cases e
theorem g_sub : G2 K (rI0 fun i j => V.int (i - j)) subS := by
  intro F μ S H x y dx dy s Q o rx ry e k
  cases dx <;> cases dy <;> simp only [subS, reduceCtorEq] at e
  case int.int i j =>
    cases e
    have hx := rx.int; have hy := ry.int
    subst hx hy
    exact ⟨i, j, rfl, rfl, end_pl o (fun _ _ => .int _) k⟩
theorem smallI_log {i : Int} (h : smallI i = true) : i.natAbs.log2 < 9000 := PySem.Flt.log2_lt_of (by decide) (of_decide_eq_true h)
abbrev rMulAny : R2 := fun x y H Q => rI CMulW (fun i j => V.int (i * j)) x y H Q ∨ rRep x y H Q
theorem op_mulAny {X : Cx} : OpR X (binaryOp .Mult) rMulAny := OpR.or op_mulW op_rep
theorem RpA.rep {vs : List V} {ds : List D} (r : RpA K F μ vs ds) : ∀ n : Nat, RpA K F μ (List.replicate n vs).flatten (List.replicate n ds).flatten
  | 0 => .nil
  | n + 1 => by
    rw [List.replicate_succ, List.replicate_succ, List.flatten_cons, List.flatten_cons]
    exact r.app (RpA.rep r n)
theorem g_mul : G2 K rMulAny mulS := by
  intro F μ S H x y dx dy s Q o rx ry e k
  cases dx <;> cases dy <;> simp only [mulS, reduceCtorEq] at e
  case int.int i j =>
    have hx := rx.int; have hy := ry.int
    subst hx hy
    split at e
    · rename_i c
      cases e
      rw [Bool.and_eq_true] at c
      have c1 := smallI_log c.1
      have c2 := smallI_log c.2
      refine .inl ⟨i, j, rfl, rfl, ?_, end_pl o (fun _ _ => .int _) k⟩
      show i.natAbs.log2 + j.natAbs.log2 < 1000000
      omega
    · cases e
  case lst.int a n =>
    obtain ⟨p, vs, rfl, hp, r⟩ := rx.lst o.sub
    have hy := ry.int
    subst hy
    split at e
    · rename_i c
      cases e
      refine .inr ⟨p, n, vs, rfl, rfl, hp, by omega, by omega, by rw [r.len]; exact cap_le c.1, fun l hl => end_own o (r.rep _) hl k⟩
    · cases e
theorem g_fdiv : G2 K (rI CDivW fun i j => V.int (i / j)) fdivS := by
  intro F μ S H x y dx dy s Q o rx ry e k
  cases dx <;> cases dy <;> simp only [fdivS, reduceCtorEq] at e
  case int.int i j =>
    have hx := rx.int; have hy := ry.int
    subst hx hy
    split at e
    · rename_i c
      cases e
      rw [Bool.and_eq_true] at c
      exact ⟨i, j, rfl, rfl, ⟨of_decide_eq_true c.1, smallI_log c.2⟩, end_pl o (fun _ _ => .int _) k⟩
    · cases e
theorem g_mod : G2 K (rI (fun _ j => 0 < j) fun i j => V.int (i % j)) modS := by
  intro F μ S H x y dx dy s Q o rx ry e k
  cases dx <;> cases dy <;> simp only [modS, reduceCtorEq] at e
  case int.int i j =>
    have hx := rx.int; have hy := ry.int
    subst hx hy
    split at e
    · rename_i c
      cases e
      exact ⟨i, j, rfl, rfl, c, end_pl o (fun _ _ => .int _) k⟩
    · cases e
def CPowA (i j : Int) : Prop := 0 ≤ j ∧ (PySem.Builtin.Int.intBits i : Int) * j ≤ 2 ^ 27
theorem op_powA {X : Cx} : OpR X (binaryOp .Pow) (rI CPowA fun i j => V.int (i ^ j.toNat)) := opI fun _ _ _ _ _ _ _ hc q => pow_int hc.1 hc.2 q
theorem cpow_of {i j : Int} (h1 : 0 ≤ j) (h2 : j ≤ 1000) (h3 : i.natAbs < 2 ^ 1000) : CPowA i j := by
  refine ⟨h1, ?_⟩
  have b : PySem.Builtin.Int.intBits i ≤ 1000 := by
    unfold PySem.Builtin.Int.intBits
    by_cases h : i = 0
    · simp [h]
    · have hn : i.natAbs ≠ 0 := by omega
      have := (Nat.log2_lt hn).mpr h3
      simp only [beq_iff_eq, h, if_false]
      omega
  have : (PySem.Builtin.Int.intBits i : Int) * j ≤ 1000 * 1000 := Int.mul_le_mul (by omega) h2 h1 (by decide)
  have e : (2 : Int) ^ 27 = 134217728 := by decide
  omega
theorem g_pow : G2 K (rI CPowA fun i j => V.int (i ^ j.toNat)) powS := by
  intro F μ S H x y dx dy s Q o rx ry e k
  cases dx <;> cases dy <;> simp only [powS, reduceCtorEq] at e
  case int.int i j =>
    have hx := rx.int; have hy := ry.int
    subst hx hy
    split at e
    · rename_i c
      cases e
      exact ⟨i, j, rfl, rfl, cpow_of c.1 c.2.1 c.2.2, end_pl o (fun _ _ => .int _) k⟩
    · cases e
abbrev rEqA (K : PySem.W.Frag) : R2 := fun x y H Q => rEq x y H Q ∨ rEqD K x y H Q
abbrev rNeA (K : PySem.W.Frag) : R2 := fun x y H Q => rNe x y H Q ∨ rNeD K x y H Q
theorem op_eqA {X : Cx} (hu : X.A.units + 64 < cLine) : OpR X (compareOp .Eq) (rEqA X.K) := op_eq.or (op_eqD hu)
theorem op_neA {X : Cx} (hu : X.A.units + 64 < cLine) : OpR X (compareOp .NotEq) (rNeA X.K) := op_ne.or (op_neD hu)
theorem isSS_ok {x y : D} (h : isSS x y = true) : ∃ a b, x = .str a ∧ y = .str b := by
  cases x <;> cases y <;> first | exact ⟨_, _, rfl, rfl⟩ | cases h
theorem g_eq : G2 K (rEqA K) eqS := by
  intro F μ S H x y dx dy s Q o rx ry e k
  unfold eqS eqD at e
  cases c0 : isSS dx dy with
  | true =>
    obtain ⟨a, b, rfl, rfl⟩ := isSS_ok c0
    have hx := rx.str; have hy := ry.str
    subst hx hy
    rw [c0, Bool.true_or, if_pos rfl] at e
    cases e
    refine .inl ⟨rfl, ?_⟩
    rw [dec_str]
    exact end_pl o (fun _ _ => by rw [show PyData.eqv (toPy (.str a)) (toPy (.str b)) = (a == b) from by simp [toPy, PyData.eqv]]; exact .bl _) k
  | false =>
    rw [c0, Bool.false_or] at e
    by_cases c : (okp dx && okp dy) = true
    · rw [if_pos c] at e
      cases e
      rw [Bool.and_eq_true] at c
      obtain ⟨c1, c2⟩ := okp_iff c.1
      obtain ⟨c3, c4⟩ := okp_iff c.2
      exact .inr ⟨_, _, (rx.toH o.sub).dp c1, (ry.toH o.sub).dp c3, c2, c4, end_pl o (fun _ _ => .bl _) k⟩
    · rw [if_neg c] at e
      cases e
theorem g_ne : G2 K (rNeA K) neS := by
  intro F μ S H x y dx dy s Q o rx ry e k
  unfold neS eqD at e
  cases c0 : isSS dx dy with
  | true =>
    obtain ⟨a, b, rfl, rfl⟩ := isSS_ok c0
    have hx := rx.str; have hy := ry.str
    subst hx hy
    rw [c0, Bool.true_or, if_pos rfl] at e
    cases e
    refine .inl ⟨rfl, ?_⟩
    rw [dec_str]
    exact end_pl o (fun _ _ => by rw [show PyData.eqv (toPy (.str a)) (toPy (.str b)) = (a == b) from by simp [toPy, PyData.eqv]]; exact .bl _) k
  | false =>
    rw [c0, Bool.false_or] at e
    by_cases c : (okp dx && okp dy) = true
    · rw [if_pos c] at e
      cases e
      rw [Bool.and_eq_true] at c
      obtain ⟨c1, c2⟩ := okp_iff c.1
      obtain ⟨c3, c4⟩ := okp_iff c.2
      exact .inr ⟨_, _, (rx.toH o.sub).dp c1, (ry.toH o.sub).dp c3, c2, c4, end_pl o (fun _ _ => .bl _) k⟩
    · rw [if_neg c] at e
      cases e
abbrev rB (p : Int → Int → Bool) (q : Str → Str → Bool) : R2 := fun x y H Q => rI0 (fun i j => V.bl (p i j)) x y H Q ∨ ∃ i j, x = V.str i ∧ y = V.str j ∧ Q (V.bl (q i j)) H
theorem g_is {p : Int → Int → Bool} {q : Str → Str → Bool} {g : D → D → Option Bool} (hi : ∀ i j, g (.int i) (.int j) = some (p i j)) (hs : ∀ i j, g (.str i) (.str j) = some (q i j))
    (hn : ∀ x y b, g x y = some b → (∃ i j, x = .int i ∧ y = .int j) ∨ ∃ i j, x = .str i ∧ y = .str j) : G2 K (rB p q) fun x y => blS (g x y) := by
  intro F μ S H x y dx dy s Q o rx ry e k
  cases q : g dx dy with
  | none => simp only [q, blS_none, reduceCtorEq] at e
  | some b =>
    simp only [q, blS_some, Option.some.injEq] at e
    subst e
    rcases hn _ _ _ q with ⟨i, j, rfl, rfl⟩ | ⟨i, j, rfl, rfl⟩
    · rw [hi] at q
      cases q
      have hx := rx.int; have hy := ry.int
      subst hx hy
      exact .inl ⟨i, j, rfl, rfl, end_pl o (fun _ _ => .bl _) k⟩
    · rw [hs] at q
      cases q
      have hx := rx.str; have hy := ry.str
      subst hx hy
      exact .inr ⟨i, j, rfl, rfl, end_pl o (fun _ _ => .bl _) k⟩
theorem op_ltAny {X : Cx} : OpR X (compareOp .Lt) (rB (fun i j => decide (i < j)) fun i j => decide (i.cps.toList < j.cps.toList)) := OpR.or op_lt op_lt_str
theorem op_leAny {X : Cx} : OpR X (compareOp .LtE) (rB (fun i j => decide (i ≤ j)) fun i j => !decide (j.cps.toList < i.cps.toList)) := OpR.or op_le op_le_str
theorem op_gtAny {X : Cx} : OpR X (compareOp .Gt) (rB (fun i j => decide (j < i)) fun i j => decide (j.cps.toList < i.cps.toList)) := OpR.or op_gt op_gt_str
theorem op_geAny {X : Cx} : OpR X (compareOp .GtE) (rB (fun i j => decide (j ≤ i)) fun i j => !decide (i.cps.toList < j.cps.toList)) := OpR.or op_ge op_ge_str
theorem g_lt_is : G2 K (rB (fun i j => decide (i < j)) fun i j => decide (i.cps.toList < j.cps.toList)) fun x y => blS (ltI x y) := g_is (g := ltI) (fun _ _ => rfl) (fun _ _ => rfl) fun x y b e => by cases x <;> cases y <;> simp_all [ltI]
theorem g_le_is : G2 K (rB (fun i j => decide (i ≤ j)) fun i j => !decide (j.cps.toList < i.cps.toList)) fun x y => blS (leI x y) := g_is (g := leI) (fun _ _ => rfl) (fun _ _ => rfl) fun x y b e => by cases x <;> cases y <;> simp_all [leI]
theorem g_gt_is : G2 K (rB (fun i j => decide (j < i)) fun i j => decide (j.cps.toList < i.cps.toList)) fun x y => blS (ltI y x) := g_is (g := fun x y => ltI y x) (fun _ _ => rfl) (fun _ _ => rfl) fun x y b e => by cases x <;> cases y <;> simp_all [ltI]
theorem g_ge_is : G2 K (rB (fun i j => decide (j ≤ i)) fun i j => !decide (i.cps.toList < j.cps.toList)) fun x y => blS (leI y x) := g_is (g := fun x y => leI y x) (fun _ _ => rfl) (fun _ _ => rfl) fun x y b e => by cases x <;> cases y <;> simp_all [leI]
theorem toPyA_any (f : PyData → Bool) : ∀ ys : List D, (toPyA ys).any f = ys.any fun z => f (toPy z)
  | [] => rfl
  | y :: ys => by rw [toPyA, List.any_cons, List.any_cons, toPyA_any f ys]
def rInT (K : PySem.W.Frag) (neg : Bool) : R2 := fun x y H Q => ∃ d ds, Dp K H x d ∧ Dp K H y (.tuple ds) ∧ SeqAt.shaped d = true ∧ SeqAt.shaped (.tuple ds) = true ∧ Q (.bl (if neg then !ds.any fun z => PyData.eqv z d else ds.any fun z => PyData.eqv z d)) H
theorem op_inT {X : Cx} (hu : X.A.units + 65 < cLine) : OpR X (compareOp .In) (rInT X.K false) := by
  intro pins s σ H x y v u Q I rx ry h
  obtain ⟨d, ds, hd, he, sd, se, q⟩ := h
  obtain ⟨as, r1⟩ := Dp.reads I d x v hd rx
  obtain ⟨bs, r2⟩ := Dp.reads I (.tuple ds) y u he ry
  exact SeqAt.in_tuple_reads r2 r1 (SeqAt.canLay_of_shaped se) (SeqAt.canLay_of_shaped sd) (room_in_shaped sd hu) ⟨.bl _, H, I, rfl, q⟩
theorem op_notInT {X : Cx} (hu : X.A.units + 65 < cLine) : OpR X (compareOp .NotIn) (rInT X.K true) := by
  intro pins s σ H x y v u Q I rx ry h
  obtain ⟨d, ds, hd, he, sd, se, q⟩ := h
  obtain ⟨as, r1⟩ := Dp.reads I d x v hd rx
  obtain ⟨bs, r2⟩ := Dp.reads I (.tuple ds) y u he ry
  exact SeqAt.notIn_tuple_reads r2 r1 (SeqAt.canLay_of_shaped se) (SeqAt.canLay_of_shaped sd) (room_in_shaped sd hu) ⟨.bl _, H, I, rfl, q⟩
abbrev rInAny (K : PySem.W.Frag) : R2 := fun x y H Q => rInD K x y H Q ∨ (rInT K false x y H Q ∨ ∃ (c : Nat) (z : Str), x = V.str ⟨#[c]⟩ ∧ y = V.str z ∧ Q (V.bl (decide (c ∈ z.cps.toList))) H)
abbrev rNotInAny (K : PySem.W.Frag) : R2 := fun x y H Q => rNotInD K x y H Q ∨ (rInT K true x y H Q ∨ ∃ (c : Nat) (z : Str), x = V.str ⟨#[c]⟩ ∧ y = V.str z ∧ Q (V.bl (!decide (c ∈ z.cps.toList))) H)
theorem op_inAny {X : Cx} (hu : X.A.units + 65 < cLine) : OpR X (compareOp .In) (rInAny X.K) := OpR.or (op_inD hu) (OpR.or (op_inT hu) op_in_sign)
theorem op_notInAny {X : Cx} (hu : X.A.units + 65 < cLine) : OpR X (compareOp .NotIn) (rNotInAny X.K) := OpR.or (op_notInD hu) (OpR.or (op_notInT hu) op_notIn_sign)
theorem str_one {x : Str} {c : Nat} (h : x.cps.toList = [c]) : x = ⟨#[c]⟩ := by
  have e : x.cps = #[c] := by
    apply Array.ext'
    rw [h]
  cases x
  simp at e
  rw [e]
theorem g_inAny {neg : Bool} {r : R2} (hL : ∀ {x y : V} {H : Hp} {Q : VK} {d : PyData} {ds : List PyData}, Dp K H x d → Dp K H y (.list ds) → SeqAt.shaped d = true → SeqAt.shaped (.list ds) = true → Q (.bl (neg ^^ ds.any fun z => PyData.eqv z d)) H → r x y H Q)
    (hT : ∀ {x y : V} {H : Hp} {Q : VK} {d : PyData} {ds : List PyData}, Dp K H x d → Dp K H y (.tuple ds) → SeqAt.shaped d = true → SeqAt.shaped (.tuple ds) = true → Q (.bl (neg ^^ ds.any fun z => PyData.eqv z d)) H → r x y H Q)
    (hS : ∀ {H : Hp} {Q : VK} {c : Nat} {z : Str}, Q (V.bl (neg ^^ decide (c ∈ z.cps.toList))) H → r (V.str ⟨#[c]⟩) (V.str z) H Q) : G2 K r fun x y => (inD x y).map fun b => .pl (.bl (neg ^^ b)) := by
  intro F μ S H x y dx dy s Q o rx ry e k
  cases dy with
  | lst ys =>
    simp only [inD] at e
    by_cases c : (okp dx && okp (.lst ys)) = true
    · rw [if_pos c] at e
      cases e
      rw [Bool.and_eq_true] at c
      obtain ⟨c1, c2⟩ := okp_iff c.1
      obtain ⟨c3, c4⟩ := okp_iff c.2
      refine hL ((rx.toH o.sub).dp c1) ((ry.toH o.sub).dp c3) c2 c4 ?_
      rw [toPyA_any]
      exact end_pl o (fun _ _ => .bl _) k
    · rw [if_neg c] at e
      cases e
  | tup ys =>
    simp only [inD] at e
    by_cases c : (okp dx && okp (.tup ys)) = true
    · rw [if_pos c] at e
      cases e
      rw [Bool.and_eq_true] at c
      obtain ⟨c1, c2⟩ := okp_iff c.1
      obtain ⟨c3, c4⟩ := okp_iff c.2
      refine hT ((rx.toH o.sub).dp c1) ((ry.toH o.sub).dp c3) c2 c4 ?_
      rw [toPyA_any]
      exact end_pl o (fun _ _ => .bl _) k
    · rw [if_neg c] at e
      cases e
  | str z =>
    cases dx with
    | str x0 =>
      simp only [inD] at e
      split at e
      · rename_i c hc
        cases e
        have hx := rx.str; have hy := ry.str
        subst hx hy
        rw [str_one hc]
        exact hS (end_pl o (fun _ _ => .bl _) k)
      · cases e
    | _ => simp [inD] at e
  | _ => cases dx <;> simp [inD] at e
theorem g_in : G2 K (rInAny K) fun x y => (inD x y).map fun b => .pl (.bl (false ^^ b)) :=
  g_inAny (fun h1 h2 h3 h4 q => .inl ⟨_, _, h1, h2, h3, h4, by rw [Bool.false_xor] at q; exact q⟩) (fun h1 h2 h3 h4 q => .inr (.inl ⟨_, _, h1, h2, h3, h4, by rw [Bool.false_xor] at q; exact q⟩)) fun q => .inr (.inr ⟨_, _, rfl, rfl, by rw [Bool.false_xor] at q; exact q⟩)
theorem g_notIn : G2 K (rNotInAny K) fun x y => (inD x y).map fun b => .pl (.bl (true ^^ b)) :=
  g_inAny (fun h1 h2 h3 h4 q => .inl ⟨_, _, h1, h2, h3, h4, by rw [Bool.true_xor] at q; exact q⟩) (fun h1 h2 h3 h4 q => .inr (.inl ⟨_, _, h1, h2, h3, h4, by rw [Bool.true_xor] at q; exact q⟩)) fun q => .inr (.inr ⟨_, _, rfl, rfl, by rw [Bool.true_xor] at q; exact q⟩)
theorem G2.eq {r : R2} {g g' : D → D → Option Sl} (h : G2 K r g) (e : ∀ x y, g' x y = g x y) : G2 K r g' := by
  intro F μ S H x y dx dy s Q o rx ry e2 k
  rw [e] at e2
  exact h o rx ry e2 k
end
end Gt
set_option Elab.async false
set_option linter.all false
set_option maxRecDepth 100000
namespace Gt
open PySem PySem.Spec PyProof.Rows L2
section
variable {K : PySem.W.Frag} {W : WX} {B : Bs} {F F' H H' : Hp} {μ μ' : List Addr} {S S' : Ms} {δ : Evm} {σ : L2.St}
def XW (K : PySem.W.Frag) (W : WX) (F : Hp) (μ : List Addr) (H : Hp) (σ : L2.St) (x : Xn) (S' : Ms) : Prop := ∀ F' μ' H' d, Stp F μ H F' μ' H' → Ok K F' μ' S' H' → XR K F' μ' H' d x → W (.ref (cA K x.c)) d σ H'
theorem wE_rdG {α : Type} {f : Fe} {k : D → Ms → Rs α} {Q : VK} {G : Hp → List Addr → Hp → Rs α → Prop} (hs : StR K B F μ S δ σ H)
    (gx : ∀ x S1, G F μ H (.ex x S1) → XW K W F μ H σ x S1) (gs : ¬ G F μ H .st) (gg : ∀ F1 μ1 H1 r, Stp F μ H F1 μ1 H1 → G F μ H r → G F1 μ1 H1 r) (ho : G F μ H ((rd f δ S).bind k))
    (hk : ∀ d S1 F1 μ1 H1 v, Stp F μ H F1 μ1 H1 → StR K B F1 μ1 S1 δ σ H1 → VD K σ δ F1 μ1 v d → G F1 μ1 H1 (k d S1) → Q v H1) : wE K W f σ H Q := by
  refine ⟨B, F, μ, S, δ, hs, ?_⟩
  unfold rd at ho
  cases e : f δ S with
  | st => rw [e] at ho; exact gs ho
  | ex x S1 => rw [e] at ho; exact gx x S1 ho
  | ok s S1 =>
    rw [e] at ho
    cases s with
    | no => exact (gs ho).elim
    | oin _ _ => exact (gs ho).elim
    | pl d => exact fun F1 μ1 H1 v t o r => hk d S1 F1 μ1 H1 v t (hs.go t o) (.inl r) (gg _ _ _ _ t ho)
    | bor ds => exact fun F1 μ1 H1 v t o ⟨i, r1, r2⟩ => hk (.lst ds) S1 F1 μ1 H1 v t (hs.go t o) (.inr ⟨ds, i, rfl, r1, r2⟩) (gg _ _ _ _ t ho)
    | own ds =>
      rintro F1 μ1 H1 v t o ⟨p, vs, rfl, h, r, nF, nM, hn⟩
      obtain ⟨t2, o2⟩ := freeze t o h hn nF nM
      exact hk (.lst ds) S1 _ μ1 H1 _ t2 (hs.go t2 o2) (.inl (.lst upd_same (r.mono (Sub.new nF) (.refl _)))) (gg _ _ _ _ t2 ho)
    | od ks ds =>
      rintro F1 μ1 H1 v t o ⟨p, rfl, nF, nM, hn, h⟩
      rcases h with ⟨kvs, h, rfl, r⟩ | ⟨kvs, h, rfl, r⟩
      · obtain ⟨t2, o2⟩ := freeze t o h hn nF nM
        exact hk (.dct _ ds) S1 _ μ1 H1 _ t2 (hs.go t2 o2) (.inl (.dctK upd_same (r.mono (Sub.new nF) (.refl _)))) (gg _ _ _ _ t2 ho)
      · obtain ⟨t2, o2⟩ := freeze t o h hn nF nM
        exact hk (.dct _ ds) S1 _ μ1 H1 _ t2 (hs.go t2 o2) (.inl (.dctT upd_same (r.mono (Sub.new nF) (.refl _)))) (gg _ _ _ _ t2 ho)
theorem wE_rdT {f : Fe} {k : D → Ms → Rs Bool} {Q0 : Bool → Hp → Prop} {Q : VK} (hs : StR K B F μ S δ σ H) (ho : OT K W F μ H σ Q0 ((rd f δ S).bind k))
    (hk : ∀ d S1 F1 μ1 H1 v, Stp F μ H F1 μ1 H1 → StR K B F1 μ1 S1 δ σ H1 → VD K σ δ F1 μ1 v d → OT K W F1 μ1 H1 σ Q0 (k d S1) → Q v H1) : wE K W f σ H Q :=
  wE_rdG (G := fun F μ H r => OT K W F μ H σ Q0 r) hs (fun _ _ h => h) (fun h => h) (fun _ _ _ _ t h => OT.go t h) ho hk
theorem wE_rdA {f : Fe} {k : D → Ms → Rs (List Sl)} {Q0 : List V → Hp → Prop} {Q : VK} (hs : StR K B F μ S δ σ H) (ho : OA K W F μ H σ δ Q0 ((rd f δ S).bind k))
    (hk : ∀ d S1 F1 μ1 H1 v, Stp F μ H F1 μ1 H1 → StR K B F1 μ1 S1 δ σ H1 → VD K σ δ F1 μ1 v d → OA K W F1 μ1 H1 σ δ Q0 (k d S1) → Q v H1) : wE K W f σ H Q :=
  wE_rdG (G := fun F μ H r => OA K W F μ H σ δ Q0 r) hs (fun _ _ h => h) (fun h => h) (fun _ _ _ _ t h => OA.go t h) ho hk
theorem wT_bind {α : Type} {f : Ft} {k : Bool → Ms → Rs α} {Q : Bool → Hp → Prop} {G : Hp → List Addr → Hp → Rs α → Prop} (hs : StR K B F μ S δ σ H)
    (gx : ∀ x S1, G F μ H (.ex x S1) → XW K W F μ H σ x S1) (gs : ¬ G F μ H .st) (gg : ∀ F1 μ1 H1 r, Stp F μ H F1 μ1 H1 → G F μ H r → G F1 μ1 H1 r) (ho : G F μ H ((f δ S).bind k))
    (hk : ∀ b S1 F1 μ1 H1, Stp F μ H F1 μ1 H1 → StR K B F1 μ1 S1 δ σ H1 → G F1 μ1 H1 (k b S1) → Q b H1) : wT K W f σ H Q := by
  refine ⟨B, F, μ, S, δ, hs, ?_⟩
  cases e : f δ S with
  | st => rw [e] at ho; exact gs ho
  | ex x S1 => rw [e] at ho; exact gx x S1 ho
  | ok b S1 =>
    rw [e] at ho
    exact fun F1 μ1 H1 t o => hk b S1 F1 μ1 H1 t (hs.go t o) (gg _ _ _ _ t ho)
theorem wA_bind {α : Type} {f : Fa} {k : List Sl → Ms → Rs α} {Q : List V → Hp → Prop} {G : Hp → List Addr → Hp → Rs α → Prop} (hs : StR K B F μ S δ σ H)
    (gx : ∀ x S1, G F μ H (.ex x S1) → XW K W F μ H σ x S1) (gs : ¬ G F μ H .st) (gg : ∀ F1 μ1 H1 r, Stp F μ H F1 μ1 H1 → G F μ H r → G F1 μ1 H1 r) (ho : G F μ H ((f δ S).bind k))
    (hk : ∀ ss S1 F1 μ1 H1 vs, Stp F μ H F1 μ1 H1 → StR K B F1 μ1 S1 δ σ H1 → VAs K σ δ F1 μ1 vs ss → G F1 μ1 H1 (k ss S1) → Q vs H1) : wA K W f σ H Q := by
  refine ⟨B, F, μ, S, δ, hs, ?_⟩
  cases e : f δ S with
  | st => rw [e] at ho; exact gs ho
  | ex x S1 => rw [e] at ho; exact gx x S1 ho
  | ok ss S1 =>
    rw [e] at ho
    exact fun F1 μ1 H1 vs t o r => hk ss S1 F1 μ1 H1 vs t (hs.go t o) r (gg _ _ _ _ t ho)
end
def truD : D → Option Bool
  | .non => some false
  | .bl b => some b
  | .int i => some (i != 0)
  | .str x => if x.length ≤ cap then some ((x.length : Int) != 0) else none
  | .lst xs => some (!xs.isEmpty)
  | .tup xs => some (!xs.isEmpty)
  | _ => none
def tV (f : Fe) : Ft := fun δ S => (rd f δ S).bind fun d S => match truD d with
  | some b => .ok b S
  | none => .st
def isB : D → Option Bool
  | .bl b => some b
  | _ => none
def tB' (f : Fe) : Ft := fun δ S => (rd f δ S).bind fun d S => match isB d with
  | some b => .ok b S
  | none => .st
def tAnd' (f g : Ft) : Ft := fun δ S => (f δ S).bind fun b S => if b = true then g δ S else .ok false S
def tOr' (f g : Ft) : Ft := fun δ S => (f δ S).bind fun b S => if b = true then .ok true S else g δ S
def tNot' (f : Ft) : Ft := fun δ S => (f δ S).bind fun b S => .ok (!b) S
section
variable {X : Cx} {W : WX} {a b c : Expr} {fa fb fc : Fe} {pos : Pos} {ta tb : Ft} {rest : List Expr}
theorem OT.same {K : PySem.W.Frag} {F : Hp} {μ : List Addr} {H : Hp} {S : Ms} {σ : L2.St} {Q : Bool → Hp → Prop} {b : Bool} (o : Ok K F μ S H) (h : OT K W F μ H σ Q (.ok b S)) : Q b H := h F μ H (.refl _ _ _) o
theorem st_truth (h : SE X W a fa) (he : ∀ whole, isTrue a X.env whole = (do let v ← whole; standAt a.pos; holding [v] (truthy v)) := by intro _; rfl) : ST X W a (tV fa) := PT.imp (pt_truth h he) fun σ H Q ⟨B, F, μ, S, δ, hs, ho⟩ => by
  refine wE_rdT hs ho fun d S1 F1 μ1 H1 v t1 h1 v1 o1 => ?_
  have rr := v1.rr h1
  cases d <;> simp only [truD] at o1
  case non =>
    have e := rr.non; subst e
    exact ⟨false, rfl, o1.same h1.ok⟩
  case bl b =>
    have e := rr.bl; subst e
    exact ⟨b, rfl, o1.same h1.ok⟩
  case int i =>
    have e := rr.int; subst e
    exact ⟨_, rfl, o1.same h1.ok⟩
  case str x =>
    have e := rr.str; subst e
    by_cases c : x.length ≤ cap
    · rw [if_pos c] at o1
      exact ⟨_, ⟨cap_le c, rfl⟩, o1.same h1.ok⟩
    · rw [if_neg c] at o1
      exact o1.elim
  case lst xs =>
    obtain ⟨p, vs, rfl, hp, r⟩ := rr.lst h1.ok.sub
    have e : vs.isEmpty = xs.isEmpty := by
      have := r.len
      cases vs <;> cases xs <;> simp_all
    exact ⟨_, .inl ⟨vs, SqL.of hp, rfl⟩, by rw [e]; exact o1.same h1.ok⟩
  case tup xs =>
    obtain ⟨p, vs, rfl, hp, r⟩ := rr.tup h1.ok.sub
    have e : vs.isEmpty = xs.isEmpty := by
      have := r.len
      cases vs <;> cases xs <;> simp_all
    exact ⟨_, .inr (.inl ⟨vs, hp, rfl⟩), by rw [e]; exact o1.same h1.ok⟩
  all_goals exact o1.elim
theorem tB_of {t : TE} {K : PySem.W.Frag} (h : ∀ σ H Q, wE K W fa σ H Q → t σ H Q) {σ : L2.St} {H : Hp} {Q : Bool → Hp → Prop} (q : wT K W (tB' fa) σ H Q) : t σ H fun x H' => ∃ k, x = .bl k ∧ Q k H' := by
  obtain ⟨B, F, μ, S, δ, hs, ho⟩ := q
  refine h _ _ _ (wE_rdT hs ho fun d S1 F1 μ1 H1 v t1 h1 v1 o1 => ?_)
  cases d <;> simp only [isB] at o1
  case bl b =>
    have e := (v1.rr h1).bl; subst e
    exact ⟨b, rfl, o1.same h1.ok⟩
  all_goals exact o1.elim
theorem st_cmp {op : CmpOp} {r : R2} {g : D → D → Option Sl} (ho : OpR X (compareOp op) r) (hg : G2 X.K r g) (ha : SE X W a fa) (hb : SE X W b fb) (hm : behindInMarks op b = false) : ST X W (.Compare a [op] [b] pos) (tB' (eB g fa fb)) :=
  PT.imp (pt_cmpR ho ha hb hm) fun _ _ _ q => tB_of (fun _ _ _ => tOp_of hg) q
theorem st_bool (h : SE X W a fa) (he : ∀ whole, isTrue a X.env whole = (do let v ← whole; standAt a.pos; holding [v] (truthy v)) := by intro _; rfl) : ST X W a (tB' fa) := PT.imp (pt_val h he) fun _ _ _ q => tB_of (fun _ _ _ z => z) q
theorem st_not (h : ST X W a ta) : ST X W (.UnaryOp .Not a pos) (tNot' ta) := PT.imp (pt_not h) fun σ H Q ⟨B, F, μ, S, δ, hs, ho⟩ =>
  wT_bind (G := fun F μ H r => OT X.K W F μ H σ Q r) hs (fun _ _ h => h) (fun h => h) (fun _ _ _ _ t h => OT.go t h) ho fun b S1 F1 μ1 H1 t h1 o1 => o1.same h1.ok
abbrev SW (X : Cx) (W : WX) (e : Expr) (f : Ft) : Prop := PW X e (wT X.K W f)
theorem PW.imp {X : Cx} {e : Expr} {t t' : TT} (h : PW X e t) (i : ∀ σ H Q, t' σ H Q → t σ H Q) : PW X e t' := ⟨fun wh pins s σ H Q I q => h.run wh pins s σ H Q I (i σ H Q q)⟩
theorem sw_and1 (h : ST X W a ta) : SW X W (.BoolOp .And [a] pos) ta := pw_and1 h
theorem sw_or1 (h : ST X W a ta) : SW X W (.BoolOp .Or [a] pos) ta := pw_or1 h
theorem sw_and (h : ST X W a ta) (h2 : SW X W (.BoolOp .And (b :: rest) pos) tb) : SW X W (.BoolOp .And (a :: b :: rest) pos) (tAnd' ta tb) := PW.imp (pw_and h h2) fun σ H Q ⟨B, F, μ, S, δ, hs, ho⟩ =>
  wT_bind (G := fun F μ H r => OT X.K W F μ H σ Q r) hs (fun _ _ h => h) (fun h => h) (fun _ _ _ _ t h => OT.go t h) ho fun b S1 F1 μ1 H1 t h1 o1 => by
    cases b with
    | true => exact ⟨B, F1, μ1, S1, δ, h1, o1⟩
    | false => exact o1.same h1.ok
theorem sw_or (h : ST X W a ta) (h2 : SW X W (.BoolOp .Or (b :: rest) pos) tb) : SW X W (.BoolOp .Or (a :: b :: rest) pos) (tOr' ta tb) := PW.imp (pw_or h h2) fun σ H Q ⟨B, F, μ, S, δ, hs, ho⟩ =>
  wT_bind (G := fun F μ H r => OT X.K W F μ H σ Q r) hs (fun _ _ h => h) (fun h => h) (fun _ _ _ _ t h => OT.go t h) ho fun b S1 F1 μ1 H1 t h1 o1 => by
    cases b with
    | false => exact ⟨B, F1, μ1, S1, δ, h1, o1⟩
    | true => exact o1.same h1.ok
def eAnd (fa fb : Fe) : Fe := fun δ S => (rd fa δ S).bind fun d S => match isB d with
  | some true => fb δ S
  | some false => .ok (.pl (.bl false)) S
  | none => .st
def eOr (fa fb : Fe) : Fe := fun δ S => (rd fa δ S).bind fun d S => match isB d with
  | some true => .ok (.pl (.bl true)) S
  | some false => fb δ S
  | none => .st
def eNot (fa : Fe) : Fe := fun δ S => (rd fa δ S).bind fun d S => match isB d with
  | some b => .ok (.pl (.bl (!b))) S
  | none => .st
def eIf (t : Ft) (fa fb : Fe) : Fe := fun δ S => (t δ S).bind fun b S => if b = true then fa δ S else fb δ S
theorem se_one {op} (h : SE X W a fa) : SE X W (.BoolOp op [a] pos) fa := pe_one h
theorem se_and (h : SE X W a fa) (h2 : SE X W (.BoolOp .And (b :: rest) pos) fb) : SE X W (.BoolOp .And (a :: b :: rest) pos) (eAnd fa fb) := PE.imp (pe_and h h2) fun σ H Q ⟨B, F, μ, S, δ, hs, ho⟩ => by
  refine wE_rd hs ho fun d S1 F1 μ1 H1 v t1 h1 v1 o1 => ?_
  cases d <;> simp only [isB] at o1
  case bl b =>
    have e := (v1.rr h1).bl; subst e
    refine ⟨b, rfl, ?_⟩
    cases b with
    | true => exact ⟨B, F1, μ1, S1, δ, h1, o1⟩
    | false => exact o1.same h1.ok (.bl false)
  all_goals exact o1.elim
theorem se_or (h : SE X W a fa) (h2 : SE X W (.BoolOp .Or (b :: rest) pos) fb) : SE X W (.BoolOp .Or (a :: b :: rest) pos) (eOr fa fb) := PE.imp (pe_or h h2) fun σ H Q ⟨B, F, μ, S, δ, hs, ho⟩ => by
  refine wE_rd hs ho fun d S1 F1 μ1 H1 v t1 h1 v1 o1 => ?_
  cases d <;> simp only [isB] at o1
  case bl b =>
    have e := (v1.rr h1).bl; subst e
    refine ⟨b, rfl, ?_⟩
    cases b with
    | false => exact ⟨B, F1, μ1, S1, δ, h1, o1⟩
    | true => exact o1.same h1.ok (.bl true)
  all_goals exact o1.elim
theorem se_not (h : SE X W a fa) : SE X W (.UnaryOp .Not a pos) (eNot fa) := PE.imp (pe_not h) fun σ H Q ⟨B, F, μ, S, δ, hs, ho⟩ => by
  refine wE_rd hs ho fun d S1 F1 μ1 H1 v t1 h1 v1 o1 => ?_
  cases d <;> simp only [isB] at o1
  case bl b =>
    have e := (v1.rr h1).bl; subst e
    exact ⟨b, rfl, o1.same h1.ok (.bl _)⟩
  all_goals exact o1.elim
theorem se_ifExp (h : ST X W c ta) (ha : SE X W a fa) (hb : SE X W b fb) : SE X W (.IfExp c a b pos) (eIf ta fa fb) := PE.imp (pe_ifExp h ha hb) fun σ H Q ⟨B, F, μ, S, δ, hs, ho⟩ =>
  wT_bind (G := fun F μ H r => OE X.K W F μ H σ δ Q r) hs (fun _ _ h => h) (fun h => h) (fun _ _ _ _ t h => OE.go t h) ho fun b S1 F1 μ1 H1 t h1 o1 => by
    cases b with
    | false => exact ⟨B, F1, μ1, S1, δ, h1, o1⟩
    | true => exact ⟨B, F1, μ1, S1, δ, h1, o1⟩
def eNeg (fa : Fe) : Fe := fun δ S => (rd fa δ S).bind fun d S => match d with
  | .int i => .ok (.pl (.int (-i))) S
  | _ => .st
theorem se_neg (h : SE X W a fa) : SE X W (.UnaryOp .USub a pos) (eNeg fa) := PE.imp (pe_un un_neg h) fun σ H Q ⟨B, F, μ, S, δ, hs, ho⟩ => by
  refine wE_rd hs ho fun d S1 F1 μ1 H1 v t1 h1 v1 o1 => ?_
  cases d <;> simp only at o1
  case int i =>
    have e := (v1.rr h1).int; subst e
    exact ⟨i, rfl, o1.same h1.ok (.int _)⟩
  all_goals exact o1.elim
def eIsN (neg : Bool) (fa : Fe) : Fe := fun δ S => (rd fa δ S).bind fun d S => .ok (.pl (.bl (neg ^^ isNon d))) S
theorem isNon_ok {K : PySem.W.Frag} {F : Hp} {μ : List Addr} {H : Hp} {v : V} {d : D} (r : RR K F μ H v d) : decide (v = .non) = isNon d := by
  rcases r with h | ⟨ds, p, vs, rfl, rfl, _, _⟩
  · cases h <;> rfl
  · rfl
theorem se_isN {j pos'} (h : SE X W a fa) : SE X W (.Compare a [.Is] [.Constant .none j pos'] pos) (eIsN false fa) := PE.imp (pe_cmp (pc_isN h) rfl) fun σ H Q ⟨B, F, μ, S, δ, hs, ho⟩ =>
  wE_rd hs ho fun d S1 F1 μ1 H1 v t1 h1 v1 o1 => by rw [isNon_ok (v1.rr h1)]; exact o1.same h1.ok (by rw [Bool.false_xor]; exact .bl _)
theorem se_notN {j pos'} (h : SE X W a fa) : SE X W (.Compare a [.IsNot] [.Constant .none j pos'] pos) (eIsN true fa) := PE.imp (pe_cmp (pc_notN h) rfl) fun σ H Q ⟨B, F, μ, S, δ, hs, ho⟩ =>
  wE_rd hs ho fun d S1 F1 μ1 H1 v t1 h1 v1 o1 => by rw [isNon_ok (v1.rr h1)]; exact o1.same h1.ok (by rw [Bool.true_xor]; exact .bl _)
def eChain (g g' : D → D → Option Sl) (fa fb fc : Fe) : Fe := fun δ S => (rd fa δ S).bind fun x S => (rd fb δ S).bind fun y S => (lift (g x y) S).bind fun z S => match toD z with
  | some (.bl true) => (rd fc δ S).bind fun w S => lift (g' y w) S
  | some (.bl false) => .ok (.pl (.bl false)) S
  | _ => .st
def chk (g : D → D → Option Sl) : Prop := ∀ x y s, g x y = some s → ∃ b, s = .pl (.bl b)
theorem tChain_of {K : PySem.W.Frag} {r r' : R2} {g g' : D → D → Option Sl} (hg : G2 K r g) (hg' : G2 K r' g') {σ : L2.St} {H : Hp} {Q : VK} (h : wE K W (eChain g g' fa fb fc) σ H Q) : tChain r r' (wE K W fa) (wE K W fb) (wE K W fc) σ H Q := by
  obtain ⟨B, F, μ, S, δ, hs, ho⟩ := h
  refine wE_rd hs ho fun x S1 F1 μ1 H1 v t1 h1 v1 o1 => wE_rd h1 o1 fun y S2 F2 μ2 H2 u t2 h2 v2 o2 => ?_
  cases e : g x y with
  | none => rw [e] at o2; exact o2.elim
  | some s =>
    rw [e, lift_some, bind_ok] at o2
    cases et : toD s with
    | none => rw [et] at o2; exact o2.elim
    | some d =>
      rw [et] at o2
      refine hg h2.ok ((v1.go t2).rr h2) (v2.rr h2) e fun F3 μ3 H3 w t3 o3 r3 => ?_
      have h3 := h2.go t3 o3
      have o3' := OE.go t3 o2
      cases d with
      | bl k =>
        have ew : w = .bl k := by
          cases s <;> simp only [toD, Option.some.injEq, reduceCtorEq] at et
          case pl d =>
            subst et
            have z : Rp K F3 μ3 w (.bl k) := r3
            cases z
            rfl
        refine ⟨k, ew, ?_⟩
        cases k with
        | true =>
          rw [if_pos rfl]
          refine wE_rd h3 o3' fun z S4 F4 μ4 H4 q t4 h4 v4 o4 => ?_
          cases e2 : g' y z with
          | none => rw [e2] at o4; exact o4.elim
          | some s2 =>
            rw [e2] at o4
            exact hg' h4.ok ((v2.go (t3.trans t4)).rr h4) (v4.rr h4) e2 fun F5 μ5 H5 q5 t5 o5 r5 => o4 F5 μ5 H5 q5 t5 o5 r5.of_nil
        | false =>
          rw [if_neg (by decide)]
          exact o3'.same h3.ok (.bl false)
      | _ => exact o3'.elim
theorem se_chain {op op' : CmpOp} {r r' : R2} {g g' : D → D → Option Sl} (ho : OpR X (compareOp op) r) (ho' : OpR X (compareOp op') r') (hg : G2 X.K r g) (hg' : G2 X.K r' g') (ha : SE X W a fa) (hb : SE X W b fb) (hc : SE X W c fc)
    (h : PE X (.Compare a [op, op'] [b, c] pos) (tChain r r' (wE X.K W fa) (wE X.K W fb) (wE X.K W fc))) : SE X W (.Compare a [op, op'] [b, c] pos) (eChain g g' fa fb fc) := PE.imp h fun _ _ _ => tChain_of hg hg'
def fA : List Fe → Fa
  | [] => fun _ S => .ok [] S
  | f :: fs => fun δ S => (f δ S).bind fun a S => match a with
    | .pl d => (fA fs δ S).bind fun r S => .ok (.pl d :: r) S
    | .bor xs => (fA fs δ S).bind fun r S => .ok (.bor xs :: r) S
    | .own xs => (fA fs δ S).bind fun r S => .ok (.pl (.lst xs) :: r) S
    | .od ks vs => (fA fs δ S).bind fun r S => .ok (.pl (.dct ks vs) :: r) S
    | _ => .st
theorem VA.go {K : PySem.W.Frag} {F H F' H' : Hp} {μ μ' : List Addr} {σ : L2.St} {δ : Evm} (t : Stp F μ H F' μ' H') {v : V} : ∀ {s : Sl}, VA K σ δ F μ v s → VA K σ δ F' μ' v s
  | .pl _, h => Rp.mono t.fr t.mu h
  | .bor _, h => h
  | .no, h => h
  | .own _, h => h
  | .od _ _, h => h
  | .oin _ _, h => h
theorem VAs.go {K : PySem.W.Frag} {F H F' H' : Hp} {μ μ' : List Addr} {σ : L2.St} {δ : Evm} (t : Stp F μ H F' μ' H') : ∀ {vs : List V} {ss : List Sl}, VAs K σ δ F μ vs ss → VAs K σ δ F' μ' vs ss
  | _, _, .nil => .nil
  | _, _, .cons h r => .cons (VA.go t h) (VAs.go t r)
theorem sa_nil : SA X W [] (fA []) := PA.imp pa_nil fun σ H Q ⟨B, F, μ, S, δ, hs, ho⟩ => ho F μ H [] (.refl _ _ _) hs.ok .nil
theorem cons_of {K : PySem.W.Frag} {f : Fe} {fs : List Fe} {σ : L2.St} {H : Hp} {Q : List V → Hp → Prop} (hw : wA K W (fA (f :: fs)) σ H Q) : tCons (wE K W f) (wA K W (fA fs)) σ H Q := by
    obtain ⟨B, F, μ, S, δ, hs, ho⟩ := hw
    have rest : ∀ (s : Sl) (S1 : Ms) (F1 : Hp) (μ1 : List Addr) (H1 : Hp) (v : V), Stp F μ H F1 μ1 H1 → Ok K F1 μ1 S1 H1 → VA K σ δ F1 μ1 v s → OA K W F μ H σ δ Q ((fA fs δ S1).bind fun r S => .ok (s :: r) S) →
        wA K W (fA fs) σ H1 fun xs H2 => Q (v :: xs) H2 := fun s S1 F1 μ1 H1 v t o r oo =>
      wA_bind (G := fun F μ H r => OA K W F μ H σ δ Q r) (hs.go t o) (fun _ _ h => h) (fun h => h) (fun _ _ _ _ t h => OA.go t h) (OA.go t oo) fun ss S2 F2 μ2 H2 vs t2 h2 r2 o2 => o2 F2 μ2 H2 (v :: vs) (.refl _ _ _) h2.ok (.cons (VA.go t2 r) r2)
    refine ⟨B, F, μ, S, δ, hs, ?_⟩
    show OE K W F μ H σ δ _ _
    have ho2 : OA K W F μ H σ δ Q ((f δ S).bind fun a S => match a with
      | .pl d => (fA fs δ S).bind fun r S => .ok (.pl d :: r) S
      | .bor xs => (fA fs δ S).bind fun r S => .ok (.bor xs :: r) S
      | .own xs => (fA fs δ S).bind fun r S => .ok (.pl (.lst xs) :: r) S
      | .od ks vs => (fA fs δ S).bind fun r S => .ok (.pl (.dct ks vs) :: r) S
      | _ => .st) := ho
    cases e : f δ S with
    | st => rw [e] at ho2; exact ho2
    | ex x S1 => rw [e] at ho2; exact ho2
    | ok s S1 =>
      rw [e] at ho2
      cases s with
      | no => exact ho2.elim
      | oin _ _ => exact ho2.elim
      | pl d => exact fun F1 μ1 H1 v t o r => rest (.pl d) S1 F1 μ1 H1 v t o r ho2
      | bor ds => exact fun F1 μ1 H1 v t o r => rest (.bor ds) S1 F1 μ1 H1 v t o r ho2
      | own ds =>
        rintro F1 μ1 H1 v t o ⟨p, vs, rfl, h, r, nF, nM, hn⟩
        obtain ⟨t2, o2⟩ := freeze t o h hn nF nM
        exact rest (.pl (.lst ds)) S1 _ μ1 H1 _ t2 o2 (.lst upd_same (r.mono (Sub.new nF) (.refl _))) ho2
      | od ks ds =>
        rintro F1 μ1 H1 v t o ⟨p, rfl, nF, nM, hn, h⟩
        rcases h with ⟨kvs, h, rfl, r⟩ | ⟨kvs, h, rfl, r⟩
        · obtain ⟨t2, o2⟩ := freeze t o h hn nF nM
          exact rest (.pl (.dct _ ds)) S1 _ μ1 H1 _ t2 o2 (.dctK upd_same (r.mono (Sub.new nF) (.refl _))) ho2
        · obtain ⟨t2, o2⟩ := freeze t o h hn nF nM
          exact rest (.pl (.dct _ ds)) S1 _ μ1 H1 _ t2 o2 (.dctT upd_same (r.mono (Sub.new nF) (.refl _))) ho2
theorem sa_cons {e : Expr} {es : List Expr} {f : Fe} {fs : List Fe} (ha : SE X W e f) (hr : SA X W es (fA fs)) (hs : starEach (e :: es) X.env = (false, eval e X.env) :: starEach es X.env := by rfl) : SA X W (e :: es) (fA (f :: fs)) :=
  PA.imp (pa_cons ha hr hs) fun _ _ _ => cons_of
theorem nil_of {K : PySem.W.Frag} {σ : L2.St} {H : Hp} {Q : List V → Hp → Prop} (hw : wA K W (fA []) σ H Q) : tNil σ H Q := by
  obtain ⟨B, F, μ, S, δ, hs, ho⟩ := hw
  exact ho F μ H [] (.refl _ _ _) hs.ok .nil
def plA : List Sl → Option (List D)
  | [] => some []
  | .pl d :: r => (plA r).map (d :: ·)
  | _ :: _ => none
def toDs : List Sl → Option (List D)
  | [] => some []
  | s :: r => match toD s, toDs r with
    | some d, some ds => some (d :: ds)
    | _, _ => none
theorem plA_rp {K : PySem.W.Frag} {F : Hp} {μ : List Addr} {σ : L2.St} {δ : Evm} : ∀ {vs : List V} {ss : List Sl} {ds : List D}, plA ss = some ds → VAs K σ δ F μ vs ss → RpA K F μ vs ds
  | _, _, _, e, .nil => by cases e; exact .nil
  | _ :: _, s :: ss, ds, e, .cons h r => by
    cases s <;> simp only [plA, reduceCtorEq] at e
    case pl d =>
      cases q : plA ss with
      | none => rw [q] at e; cases e
      | some es =>
        rw [q] at e
        cases e
        exact .cons h (plA_rp q r)
abbrev RRs (K : PySem.W.Frag) (F : Hp) (μ : List Addr) (H : Hp) : List V → List D → Prop := Paired (RR K F μ H)
theorem VA.vd {K : PySem.W.Frag} {F : Hp} {μ : List Addr} {σ : L2.St} {δ : Evm} {v : V} {d : D} : ∀ {s : Sl}, toD s = some d → VA K σ δ F μ v s → VD K σ δ F μ v d
  | .pl _, e, h => by cases e; exact .inl h
  | .bor ds, e, ⟨i, h1, h2⟩ => by cases e; exact .inr ⟨ds, i, rfl, h1, h2⟩
theorem toDs_rr {K : PySem.W.Frag} {B : Bs} {F : Hp} {μ : List Addr} {S : Ms} {σ : L2.St} {H : Hp} {δ : Evm} (hs : StR K B F μ S δ σ H) : ∀ {vs : List V} {ss : List Sl} {ds : List D}, toDs ss = some ds → VAs K σ δ F μ vs ss → RRs K F μ H vs ds
  | _, _, _, e, .nil => by cases e; exact .nil
  | _ :: _, s :: ss, ds, e, .cons h r => by
    unfold toDs at e
    split at e
    · rename_i d es q1 q2
      cases e
      exact .cons ((VA.vd q1 h).rr hs) (toDs_rr hs q2 r)
    · cases e
def eTup (fs : List Fe) : Fe := fun δ S => (fA fs δ S).bind fun ss S => match plA ss with
  | some ds => if ds.length ≤ cap then .ok (.pl (.tup ds)) S else .st
  | none => .st
def eLst (fs : List Fe) : Fe := fun δ S => (fA fs δ S).bind fun ss S => match plA ss with
  | some ds => if ds.length ≤ cap then .ok (.own ds) S else .st
  | none => .st
theorem se_tup {es : List Expr} {fs : List Fe} {x1} (h : SA X W es (fA fs)) : SE X W (.Tuple es x1 pos) (eTup fs) := PE.imp (pe_tup h) fun σ H Q ⟨B, F, μ, S, δ, hs, ho⟩ =>
  wA_bind (G := fun F μ H r => OE X.K W F μ H σ δ Q r) hs (fun _ _ h => h) (fun h => h) (fun _ _ _ _ t h => OE.go t h) ho fun ss S1 F1 μ1 H1 vs t1 h1 r1 o1 => by
    cases e : plA ss with
    | none => rw [e] at o1; exact o1.elim
    | some ds =>
      rw [e] at o1
      have r2 := plA_rp e r1
      by_cases c : ds.length ≤ cap
      · dsimp only at o1
        rw [if_pos c] at o1
        exact ⟨by rw [r2.len]; exact cap_le c, fun p hp => end_tup h1.ok r2 hp fun F2 μ2 H2 v t2 o2 r3 => o1 F2 μ2 H2 v t2 o2 r3.of_nil⟩
      · dsimp only at o1
        rw [if_neg c] at o1
        exact o1.elim
theorem se_lst {es : List Expr} {fs : List Fe} (h : SA X W es (fA fs)) : SE X W (.List es pos) (eLst fs) := PE.imp (pe_lst h) fun σ H Q ⟨B, F, μ, S, δ, hs, ho⟩ =>
  wA_bind (G := fun F μ H r => OE X.K W F μ H σ δ Q r) hs (fun _ _ h => h) (fun h => h) (fun _ _ _ _ t h => OE.go t h) ho fun ss S1 F1 μ1 H1 vs t1 h1 r1 o1 => by
    cases e : plA ss with
    | none => rw [e] at o1; exact o1.elim
    | some ds =>
      rw [e] at o1
      have r2 := plA_rp e r1
      by_cases c : ds.length ≤ cap
      · dsimp only at o1
        rw [if_pos c] at o1
        exact ⟨by rw [r2.len]; exact cap_le c, fun p hp => end_own h1.ok r2 hp fun F2 μ2 H2 v t2 o2 r3 => o1 F2 μ2 H2 v t2 o2 r3.of_nil⟩
      · dsimp only at o1
        rw [if_neg c] at o1
        exact o1.elim
def GC (K : PySem.W.Frag) (r : List V → Hp → VK → Prop) (g : List D → Option Sl) : Prop := ∀ {F : Hp} {μ : List Addr} {S : Ms} {H : Hp} {vs : List V} {ds : List D} {s : Sl} {Q : VK}, Ok K F μ S H → RRs K F μ H vs ds → g ds = some s →
  (∀ F' μ' H' v, Stp F μ H F' μ' H' → Ok K F' μ' S H' → VR K H [] [] F' μ' H' v s → Q v H') → r vs H Q
def eCall (g : List D → Option Sl) (fs : List Fe) : Fe := fun δ S => (fA fs δ S).bind fun ss S => match toDs ss with
  | some ds => lift (g ds) S
  | none => .st
theorem tCB_of {K : PySem.W.Frag} {r : List V → Hp → VK → Prop} {g : List D → Option Sl} {fs : List Fe} (hg : GC K r g) {σ : L2.St} {H : Hp} {Q : VK} (h : wE K W (eCall g fs) σ H Q) : tCB r (wA K W (fA fs)) σ H Q := by
  obtain ⟨B, F, μ, S, δ, hs, ho⟩ := h
  refine wA_bind (G := fun F μ H r => OE K W F μ H σ δ Q r) hs (fun _ _ h => h) (fun h => h) (fun _ _ _ _ t h => OE.go t h) ho fun ss S1 F1 μ1 H1 vs t1 h1 r1 o1 => ?_
  cases e : toDs ss with
  | none => rw [e] at o1; exact o1.elim
  | some ds =>
    rw [e] at o1
    dsimp only at o1
    cases e2 : g ds with
    | none => rw [e2] at o1; exact o1.elim
    | some s =>
      rw [e2] at o1
      exact hg h1.ok (toDs_rr h1 e r1) e2 fun F2 μ2 H2 v t2 o2 r2 => o1 F2 μ2 H2 v t2 o2 r2.of_nil
theorem se_call {id : String} {x : Str} {p : Pos} {e : Expr} {es : List Expr} {fs : List Fe} {r : List V → Hp → VK → Prop} {g : List D → Option Sl} (hc : CallR X (.builtin id) r) (hg : GC X.K r g) (hx : Gl X x) (hm : X.mg x = none) (hv : bootBuiltins x = some (.builtin id)) (ha : SA X W (e :: es) (fA fs))
    (hn : x ≠ "__name__" := by decide) (hdb : (x == ("__debug__" : Str)) = false := by decide) (he : starEach (e :: es) X.env = (false, eval e X.env) :: starEach es X.env := by rfl) (hpl : (backTo pos (starEach es X.env)).any (·.1) = false := by rfl) : SE X W (.Call (.Name x p) (e :: es) [] pos) (eCall g fs) :=
  PE.imp (pe_callB hc hx hm hv ha hn hdb he hpl) fun _ _ _ => tCB_of hg
theorem se_callTy {T : String} {x : Str} {p : Pos} {e : Expr} {es : List Expr} {fs : List Fe} {r : List V → Hp → VK → Prop} {g : List D → Option Sl} (hc : CallR X (.type T) r) (hg : GC X.K r g) (hx : Gl X x) (hm : X.mg x = none) (hv : bootBuiltins x = some (.type T)) (ha : SA X W (e :: es) (fA fs))
    (hn : x ≠ "__name__" := by decide) (hdb : (x == ("__debug__" : Str)) = false := by decide) (he : starEach (e :: es) X.env = (false, eval e X.env) :: starEach es X.env := by rfl) (hpl : (backTo pos (starEach es X.env)).any (·.1) = false := by rfl) : SE X W (.Call (.Name x p) (e :: es) [] pos) (eCall g fs) :=
  PE.imp (pe_callTy hc hx hm hv ha hn hdb he hpl) fun _ _ _ => tCB_of hg
end
end Gt
set_option Elab.async false
set_option linter.all false
set_option maxRecDepth 100000
namespace Gt
open PySem PySem.Spec PyProof.Rows L2
section
variable {K : PySem.W.Frag} {W : WX} {B : Bs} {F F' H H' : Hp} {μ μ' : List Addr} {S S' : Ms} {δ : Evm} {σ : L2.St}
theorem join_set {σ : L2.St} {i : Nat} {v : V} (h : i < σ.length) (j : Nat) : (σ.set i (some v))[j]?.join = if j = i then some v else σ[j]?.join := by
  by_cases e : j = i
  · subst e
    rw [if_pos rfl, List.getElem?_set_self h]
    rfl
  · rw [if_neg e, List.getElem?_set_ne (Ne.symm e)]
theorem StR.at (hs : StR K B F μ S δ σ H) {i : Nat} {s : Sl} (e : δ[i]? = some s) : i < σ.length := by rw [hs.len]; exact (List.getElem?_eq_some_iff.mp e).1
theorem StR.addr (hs : StR K B F μ S δ σ H) {i : Nat} {s : Sl} {p : Addr} (e : δ[i]? = some s) (z : σ[i]?.join = some (V.ref p)) : σ[i]? = some (some (V.ref p)) := by
  have hl := hs.at e
  rw [List.getElem?_eq_getElem hl] at z ⊢
  exact congrArg some z
theorem StR.put (hs : StR K B F μ S δ σ H) {i : Nat} {s : Sl} {v : V} (hi : i < δ.length) (r : SR K B F μ H (some v) s) (ap : isOwn s = true → ∀ (j : Nat) (t : Sl) (p : Addr), v = .ref p → j ≠ i → δ[j]? = some t → isOwn t = true → σ[j]? ≠ some (some (.ref p))) (nb : ∀ ds, s ≠ .bor ds := by intro _ z; cases z) :
    StR K B F μ S (δ.set i s) (σ.set i (some v)) H := by
  have hl : i < σ.length := by rw [hs.len]; exact hi
  refine ⟨hs.ok, hs.st, by rw [List.length_set, List.length_set, hs.len], fun j t e => ?_, fun j k t u p e1 e2 o1 o2 z1 z2 => ?_, hs.an, hs.am, fun j p ds h1 h2 => by
    by_cases q : j = i
    · subst q
      rw [List.getElem?_set_self hi] at h2
      cases h2
      exact (nb ds rfl).elim
    · rw [List.getElem?_set_ne (Ne.symm q)] at h2 ⊢
      exact hs.pn j p ds h1 h2⟩
  · rw [join_set hl]
    by_cases q : j = i
    · subst q
      rw [List.getElem?_set_self hi] at e
      cases e
      rw [if_pos rfl]
      exact r
    · rw [List.getElem?_set_ne (Ne.symm q)] at e
      rw [if_neg q]
      exact hs.sl j t e
  · by_cases q1 : j = i
    · by_cases q2 : k = i
      · rw [q1, q2]
      · subst q1
        rw [List.getElem?_set_self hi] at e1
        cases e1
        rw [List.getElem?_set_ne (Ne.symm q2)] at e2 z2
        rw [List.getElem?_set_self hl] at z1
        cases z1
        exact absurd z2 (ap o1 k u p rfl q2 e2 o2)
    · rw [List.getElem?_set_ne (Ne.symm q1)] at e1 z1
      by_cases q2 : k = i
      · subst q2
        rw [List.getElem?_set_self hi] at e2
        cases e2
        rw [List.getElem?_set_self hl] at z2
        cases z2
        exact absurd z1 (ap o2 j t p rfl q1 e1 o1)
      · rw [List.getElem?_set_ne (Ne.symm q2)] at e2 z2
        exact hs.dj j k t u p e1 e2 o1 o2 z1 z2
theorem StR.own_at (hs : StR K B F μ S δ σ H) {i : Nat} {s : Sl} {p : Addr} (e : δ[i]? = some s) (o : isOwn s = true) (z : σ[i]? = some (some (V.ref p))) : H p ≠ none ∧ F p = none ∧ p ∉ μ := by
  have q := hs.sl i s e
  rw [z] at q
  cases s <;> simp only [isOwn, reduceCtorEq] at o
  case own ds =>
    obtain ⟨p', vs, e1, h, _, n, m, _⟩ := q
    cases e1
    exact ⟨(by rw [h]; exact fun z => nomatch z), n, m⟩
  case od ks ds =>
    obtain ⟨p', e1, n, m, _, h⟩ := q
    cases e1
    rcases h with ⟨_, h, _⟩ | ⟨_, h, _⟩
    · exact ⟨(by rw [h]; exact fun z => nomatch z), n, m⟩
    · exact ⟨(by rw [h]; exact fun z => nomatch z), n, m⟩
  case oin c ds =>
    obtain ⟨p', dx, fs, e1, h, n, m, _⟩ := q
    cases e1
    exact ⟨(by rw [h]; exact fun z => nomatch z), n, m⟩
theorem StR.putP (hs : StR K B F μ S δ σ H) {i : Nat} {d : D} {v : V} (hi : i < δ.length) (r : Rp K F μ v d) : StR K B F μ S (δ.set i (.pl d)) (σ.set i (some v)) H := hs.put hi ⟨v, rfl, r⟩ fun o => by cases o
theorem StR.mut (hs : StR K B F μ S δ σ H) {i : Nat} {s t : Sl} {p : Addr} {u : HO} (e : δ[i]? = some s) (o : isOwn s = true) (z : σ[i]? = some (some (V.ref p))) (ot : isOwn t = true) (hb : B.H p = none) (r : SR K B F μ (upd H p u) (some (.ref p)) t) :
    StR K B F μ S (δ.set i t) σ (upd H p u) := by
  obtain ⟨hp, nF, nM⟩ := hs.own_at e o z
  have hi := (List.getElem?_eq_some_iff.mp e).1
  refine ⟨⟨fun a x q => ?_, hs.ok.fm, hs.ok.nd, hs.ok.ln, fun n a x e1 e2 => ?_⟩, ⟨hs.st.fr, hs.st.mu, fun a x q m => ?_, fun a q => ?_, hs.st.nf, hs.st.nm⟩, by rw [List.length_set, hs.len], fun j w ej => ?_, fun j k w y a e1 e2 o1 o2 z1 z2 => ?_, hs.an, hs.am, fun j a ds h1 h2 => by
    by_cases q : j = i
    · subst q
      rw [List.getElem?_set_self hi] at h2
      cases h2
      cases ot
    · rw [List.getElem?_set_ne (Ne.symm q)] at h2
      exact hs.pn j a ds h1 h2⟩
  · have ne : a ≠ p := fun z => by subst z; rw [nF] at q; cases q
    rw [upd_ne ne]; exact hs.ok.sub a x q
  · have ne : a ≠ p := fun z => by subst z; exact nM (List.mem_of_getElem? e1)
    rw [upd_ne ne]; exact hs.ok.mr n a x e1 e2
  · have ne : a ≠ p := fun z => by subst z; rw [hb] at q; cases q
    rw [upd_ne ne]; exact hs.st.kp a x q m
  · by_cases q2 : a = p
    · subst q2; exact hb
    · rw [upd_ne q2] at q; exact hs.st.tr a q
  · by_cases q : j = i
    · subst q
      rw [List.getElem?_set_self hi] at ej
      cases ej
      rw [z]
      exact r
    · rw [List.getElem?_set_ne (Ne.symm q)] at ej
      have old := hs.sl j w ej
      have far : isOwn w = true → ∀ a, σ[j]? = some (some (V.ref a)) → a ≠ p := fun ow a za ea => by subst ea; exact q (hs.dj j i w s a ej e ow o za z)
      cases w with
      | no => trivial
      | pl d => exact old
      | bor ds => exact old
      | own ds =>
        obtain ⟨a, vs, e1, h, r1, n, m, b⟩ := old
        have ne := far rfl a (hs.addr ej e1)
        exact ⟨a, vs, e1, (by rw [upd_ne ne]; exact h), r1, n, m, b⟩
      | od ks ds =>
        obtain ⟨a, e1, n, m, b, h⟩ := old
        have ne := far rfl a (hs.addr ej e1)
        exact ⟨a, e1, n, m, b, (by rw [upd_ne ne]; exact h)⟩
      | oin c ds =>
        obtain ⟨a, dx, fs, e1, h, n, m, b⟩ := old
        have ne := far rfl a (hs.addr ej e1)
        exact ⟨a, dx, fs, e1, (by rw [upd_ne ne]; exact h), n, m, b⟩
  · by_cases q1 : j = i
    · by_cases q2 : k = i
      · rw [q1, q2]
      · subst q1
        rw [List.getElem?_set_ne (Ne.symm q2)] at e2
        exact hs.dj j k s y a e e2 o o2 z1 z2
    · rw [List.getElem?_set_ne (Ne.symm q1)] at e1
      by_cases q2 : k = i
      · subst q2
        exact hs.dj j k w s a e1 e o1 o z1 z2
      · rw [List.getElem?_set_ne (Ne.symm q2)] at e2
        exact hs.dj j k w y a e1 e2 o1 o2 z1 z2
theorem XR.gone (t : Stp F μ H F' μ' H') : True := trivial
theorem wE_rdS {f : Fe} {k : D → Ms → Rs Fl} {D0 : Ends} {Q : VK} (hs : StR K B F μ S δ σ H) (ho : OS K W B D0 ((rd f δ S).bind k))
    (hk : ∀ d S1 F1 μ1 H1 v, Stp F μ H F1 μ1 H1 → StR K B F1 μ1 S1 δ σ H1 → VD K σ δ F1 μ1 v d → OS K W B D0 (k d S1) → Q v H1) : wE K W f σ H Q :=
  wE_rdG (G := fun _ _ _ r => OS K W B D0 r) hs (fun x S1 h F' μ' H' d t o r => h F' μ' H' σ d (hs.st.trans t) o r) (fun h => h) (fun _ _ _ _ _ h => h) ho hk
theorem wT_S {f : Ft} {k : Bool → Ms → Rs Fl} {D0 : Ends} {Q : Bool → Hp → Prop} (hs : StR K B F μ S δ σ H) (ho : OS K W B D0 ((f δ S).bind k))
    (hk : ∀ b S1 F1 μ1 H1, Stp F μ H F1 μ1 H1 → StR K B F1 μ1 S1 δ σ H1 → OS K W B D0 (k b S1) → Q b H1) : wT K W f σ H Q :=
  wT_bind (G := fun _ _ _ r => OS K W B D0 r) hs (fun x S1 h F' μ' H' d t o r => h F' μ' H' σ d (hs.st.trans t) o r) (fun h => h) (fun _ _ _ _ _ h => h) ho hk
theorem wA_S {f : Fa} {k : List Sl → Ms → Rs Fl} {D0 : Ends} {Q : List V → Hp → Prop} (hs : StR K B F μ S δ σ H) (ho : OS K W B D0 ((f δ S).bind k))
    (hk : ∀ ss S1 F1 μ1 H1 vs, Stp F μ H F1 μ1 H1 → StR K B F1 μ1 S1 δ σ H1 → VAs K σ δ F1 μ1 vs ss → OS K W B D0 (k ss S1) → Q vs H1) : wA K W f σ H Q :=
  wA_bind (G := fun _ _ _ r => OS K W B D0 r) hs (fun x S1 h F' μ' H' d t o r => h F' μ' H' σ d (hs.st.trans t) o r) (fun h => h) (fun _ _ _ _ _ h => h) ho hk
theorem wE_S {f : Fe} {k : Sl → Ms → Rs Fl} {D0 : Ends} {Q : VK} (hs : StR K B F μ S δ σ H) (ho : OS K W B D0 ((f δ S).bind k))
    (hk : ∀ s S1 F1 μ1 H1 v, Stp F μ H F1 μ1 H1 → StR K B F1 μ1 S1 δ σ H1 → VR K H σ δ F1 μ1 H1 v s → OS K W B D0 (k s S1) → Q v H1) : wE K W f σ H Q := by
  refine ⟨B, F, μ, S, δ, hs, ?_⟩
  cases e : f δ S with
  | st => rw [e] at ho; exact ho
  | ex x S1 => rw [e] at ho; exact fun F' μ' H' d t o r => ho F' μ' H' σ d (hs.st.trans t) o r
  | ok s S1 => rw [e] at ho; exact fun F1 μ1 H1 v t o r => hk s S1 F1 μ1 H1 v t (hs.go t o) r ho
end
def sNx : Fs := fun δ S => .ok (.nx δ) S
def sSeq (f g : Fs) : Fs := fun δ S => (f δ S).bind fun r S => match r with
  | .nx δ => g δ S
  | r => .ok r S
def toP : Sl → Option D
  | .pl d => some d
  | .own xs => some (.lst xs)
  | .od ks vs => some (.dct ks vs)
  | _ => none
def sAsg (i : Nat) (f : Fe) : Fs := fun δ S => (f δ S).bind fun a S => match toP a with
  | some d => if i < δ.length then .ok (.nx (δ.set i (.pl d))) S else .st
  | none => .st
def sOwn (i : Nat) (f : Fe) : Fs := fun δ S => (f δ S).bind fun a S => match a with
  | .own xs => if i < δ.length then .ok (.nx (δ.set i (.own xs))) S else .st
  | .od ks vs => if i < δ.length then .ok (.nx (δ.set i (.od ks vs))) S else .st
  | _ => .st
def sExp (f : Fe) : Fs := fun δ S => (f δ S).bind fun _ S => .ok (.nx δ) S
def sIf (t : Ft) (f g : Fs) : Fs := fun δ S => (t δ S).bind fun b S => if b = true then f δ S else g δ S
def sRet (f : Fe) : Fs := fun δ S => (f δ S).bind fun a S => match a with
  | .pl d => .ok (.rt (.pl d)) S
  | .own xs => .ok (.rt (.own xs)) S
  | .od ks vs => .ok (.rt (.od ks vs)) S
  | _ => .st
def sRetV (i : Nat) : Fs := fun δ S => match δ[i]? with
  | some (.pl d) => .ok (.rt (.pl d)) S
  | some (.own xs) => .ok (.rt (.own xs)) S
  | some (.od ks vs) => .ok (.rt (.od ks vs)) S
  | _ => .st
def sRetN : Fs := fun _ S => .ok (.rt (.pl .non)) S
def sBrk : Fs := fun δ S => .ok (.bk δ) S
def sCt : Fs := fun δ S => .ok (.ct δ) S
def sNever : Fs := fun _ _ => .st
section
variable {X : Cx} {W : WX} {a b c e : Expr} {fa fb fc f : Fe} {pos : Pos} {t : Ft} {st : Stmt} {rest body orelse : List Stmt} {g h : Fs}
theorem ss_nil : SL X W [] sNx := PSs.imp pss_nil fun D σ H ⟨B, F, μ, S, δ, hs, ho⟩ => ho F μ σ H hs
theorem seq_of {K : PySem.W.Frag} {D : Ends} {σ : L2.St} {H : Hp} (q : wS K W (sSeq g h) D σ H) : tSeq (wS K W g) (wS K W h) D σ H := by
  obtain ⟨B, F, μ, S, δ, hs, ho⟩ := q
  refine ⟨B, F, μ, S, δ, hs, ?_⟩
  have ho2 : OS K W B D ((g δ S).bind fun r S => match r with
    | .nx δ => h δ S
    | r => .ok r S) := ho
  cases e : g δ S with
  | st => rw [e] at ho2; exact ho2
  | ex x S1 => rw [e] at ho2; exact ho2
  | ok r S1 =>
    rw [e] at ho2
    cases r with
    | nx δ1 => exact fun F1 μ1 σ1 H1 h1 => ⟨B, F1, μ1, S1, δ1, h1, ho2⟩
    | rt v => exact ho2
    | bk δ1 => exact ho2
    | ct δ1 => exact ho2
theorem ss_cons (h1 : SS X W st g) (h2 : SL X W rest h) : SL X W (st :: rest) (sSeq g h) := PSs.imp (pss_cons h1 h2) fun _ _ _ => seq_of
theorem ss_one (h1 : SS X W st g) : SL X W [st] g := pss_one h1
theorem ss_pass : SS X W (.Pass pos) sNx := PS.imp ps_pass fun D σ H ⟨B, F, μ, S, δ, hs, ho⟩ => ho F μ σ H hs
theorem ss_brk : SS X W (.Break pos) sBrk := PS.imp ps_break fun D σ H ⟨B, F, μ, S, δ, hs, ho⟩ => ho F μ σ H hs
theorem ss_ct : SS X W (.Continue pos) sCt := PS.imp ps_continue fun D σ H ⟨B, F, μ, S, δ, hs, ho⟩ => ho F μ σ H hs
theorem ss_never : SS X W st sNever := PS.imp ps_never fun D σ H ⟨B, F, μ, S, δ, hs, ho⟩ => ho
theorem ss_expr (he : SE X W e f) (hs : swapsWith e none pos.line X.env = pure false := by rfl) : SS X W (.Expr e pos) (sExp f) := PS.imp (ps_expr he hs) fun D σ H ⟨B, F, μ, S, δ, hs, ho⟩ =>
  wE_S hs ho fun s S1 F1 μ1 H1 v t h1 r o1 => o1 F1 μ1 σ H1 h1
theorem ss_if (hc : ST X W c t) (ha : SL X W body g) (hb : SL X W orelse h) : SS X W (.If c body orelse pos) (sIf t g h) := PS.imp (ps_if hc ha hb) fun D σ H ⟨B, F, μ, S, δ, hs, ho⟩ =>
  wT_S hs ho fun b S1 F1 μ1 H1 t h1 o1 => by
    cases b with
    | true => exact ⟨B, F1, μ1, S1, δ, h1, o1⟩
    | false => exact ⟨B, F1, μ1, S1, δ, h1, o1⟩
theorem wE_P {K : PySem.W.Frag} {B : Bs} {F H : Hp} {μ : List Addr} {S : Ms} {δ : Evm} {σ : L2.St} {k : D → Ms → Rs Fl} {D0 : Ends} {Q : VK} (hs : StR K B F μ S δ σ H) (ho : OS K W B D0 ((f δ S).bind fun a S => match toP a with
      | some d => k d S
      | none => .st))
    (hk : ∀ d S1 F1 μ1 H1 v, Stp F μ H F1 μ1 H1 → StR K B F1 μ1 S1 δ σ H1 → Rp K F1 μ1 v d → OS K W B D0 (k d S1) → Q v H1) : wE K W f σ H Q := by
  refine ⟨B, F, μ, S, δ, hs, ?_⟩
  cases e : f δ S with
  | st => rw [e] at ho; exact ho
  | ex x S1 => rw [e] at ho; exact fun F' μ' H' d t o r => ho F' μ' H' σ d (hs.st.trans t) o r
  | ok s S1 =>
    rw [e] at ho
    cases s with
    | no => exact (show False from ho).elim
    | oin _ _ => exact (show False from ho).elim
    | bor _ => exact (show False from ho).elim
    | pl d => exact fun F1 μ1 H1 v t o r => hk d S1 F1 μ1 H1 v t (hs.go t o) r ho
    | own ds =>
      rintro F1 μ1 H1 v t o ⟨p, vs, rfl, h, r, nF, nM, hn⟩
      obtain ⟨t2, o2⟩ := freeze t o h hn nF nM
      exact hk (.lst ds) S1 _ μ1 H1 _ t2 (hs.go t2 o2) (.lst upd_same (r.mono (Sub.new nF) (.refl _))) ho
    | od ks ds =>
      rintro F1 μ1 H1 v t o ⟨p, rfl, nF, nM, hn, h⟩
      rcases h with ⟨kvs, h, rfl, r⟩ | ⟨kvs, h, rfl, r⟩
      · obtain ⟨t2, o2⟩ := freeze t o h hn nF nM
        exact hk (.dct _ ds) S1 _ μ1 H1 _ t2 (hs.go t2 o2) (.dctK upd_same (r.mono (Sub.new nF) (.refl _))) ho
      · obtain ⟨t2, o2⟩ := freeze t o h hn nF nM
        exact hk (.dct _ ds) S1 _ μ1 H1 _ t2 (hs.go t2 o2) (.dctT upd_same (r.mono (Sub.new nF) (.refl _))) ho
theorem asg_of {K : PySem.W.Frag} {i : Nat} {D : Ends} {σ : L2.St} {H : Hp} (q : wS K W (sAsg i f) D σ H) : tAsg (wE K W f) (gName i) D σ H := by
  obtain ⟨B, F, μ, S, δ, hs, ho⟩ := q
  refine wE_P hs ho fun d S1 F1 μ1 H1 v t h1 r o1 => ?_
  by_cases c : i < δ.length
  · rw [if_pos c] at o1
    exact o1 F1 μ1 _ H1 (h1.putP c r)
  · rw [if_neg c] at o1
    exact o1.elim
theorem own_of {K : PySem.W.Frag} {i : Nat} {D : Ends} {σ : L2.St} {H : Hp} (q : wS K W (sOwn i f) D σ H) : tAsg (wE K W f) (gName i) D σ H := by
  obtain ⟨B, F, μ, S, δ, hs, ho⟩ := q
  refine wE_S hs ho fun s S1 F1 μ1 H1 v t h1 r o1 => ?_
  have far : ∀ (p : Addr), H p = none → ∀ (j : Nat) (w : Sl) (p' : Addr), V.ref p = .ref p' → j ≠ i → δ[j]? = some w → isOwn w = true → σ[j]? ≠ some (some (V.ref p')) := fun p hn j w p' ep _ ej ow z => by
    cases ep
    exact (hs.own_at ej ow z).1 hn
  cases s with
  | own ds =>
    obtain ⟨p, vs, rfl, h, r, nF, nM, hn⟩ := r
    by_cases c : i < δ.length
    · dsimp only at o1
      rw [if_pos c] at o1
      exact o1 F1 μ1 _ H1 (h1.put c ⟨p, vs, rfl, h, r, nF, nM, hs.st.tr p hn⟩ fun _ => far p hn)
    · dsimp only at o1
      rw [if_neg c] at o1
      exact o1.elim
  | od ks ds =>
    obtain ⟨p, rfl, nF, nM, hn, h⟩ := r
    by_cases c : i < δ.length
    · dsimp only at o1
      rw [if_pos c] at o1
      exact o1 F1 μ1 _ H1 (h1.put c ⟨p, rfl, nF, nM, hs.st.tr p hn, h⟩ fun _ => far p hn)
    · dsimp only at o1
      rw [if_neg c] at o1
      exact o1.elim
  | no => exact (show False from o1).elim
  | pl _ => exact (show False from o1).elim
  | bor _ => exact (show False from o1).elim
  | oin _ _ => exact (show False from o1).elim
theorem ss_asg {i : Nat} {x : Str} {pos' : Pos} (h : PS X (.Assign [.Name x pos'] e pos) (tAsg (wE X.K W f) (gName i))) : SS X W (.Assign [.Name x pos'] e pos) (sAsg i f) := PS.imp h fun _ _ _ => asg_of
theorem ss_own {i : Nat} {x : Str} {pos' : Pos} (h : PS X (.Assign [.Name x pos'] e pos) (tAsg (wE X.K W f) (gName i))) : SS X W (.Assign [.Name x pos'] e pos) (sOwn i f) := PS.imp h fun _ _ _ => own_of
theorem VR.base {K : PySem.W.Frag} {B : Bs} {F H F1 H1 : Hp} {μ μ1 : List Addr} {S : Ms} {δ : Evm} {σ : L2.St} {v : V} (hs : StR K B F μ S δ σ H) : ∀ {s : Sl}, (∀ ds, s ≠ .bor ds) → VR K H σ δ F1 μ1 H1 v s → VR K B.H [] [] F1 μ1 H1 v s
  | .no, _, h => h
  | .pl _, _, h => h
  | .oin _ _, _, h => h
  | .own _, _, ⟨p, vs, e, a, b, c, d, n⟩ => ⟨p, vs, e, a, b, c, d, hs.st.tr _ n⟩
  | .od _ _, _, ⟨p, e, a, b, n, h⟩ => ⟨p, e, a, b, hs.st.tr _ n, h⟩
  | .bor ds, z, _ => (z ds rfl).elim
theorem ss_ret (he : SE X W e f) : SS X W (.Return (some e) pos) (sRet f) := PS.imp (ps_ret he) fun D σ H ⟨B, F, μ, S, δ, hs, ho⟩ =>
  wE_S hs ho fun s S1 F1 μ1 H1 v t h1 r o1 => by
    cases s with
    | pl d => exact o1 F1 μ1 H1 v h1.st h1.ok (r.base hs (s := .pl d) fun _ z => by cases z)
    | own ds => exact o1 F1 μ1 H1 v h1.st h1.ok (VR.base hs (s := .own ds) (fun _ z => by cases z) r)
    | od ks ds => exact o1 F1 μ1 H1 v h1.st h1.ok (VR.base hs (s := .od ks ds) (fun _ z => by cases z) r)
    | no => exact (show False from o1).elim
    | bor _ => exact (show False from o1).elim
    | oin _ _ => exact (show False from o1).elim
theorem ss_retV {i : Nat} {x : Str} {pos' : Pos} (h : PE X (.Name x pos') (tVar i)) : SS X W (.Return (some (.Name x pos')) pos) (sRetV i) := PS.imp (ps_ret h) fun D σ H ⟨B, F, μ, S, δ, hs, ho⟩ => by
  unfold sRetV at ho
  cases e : δ[i]? with
  | none => rw [e] at ho; exact ho.elim
  | some s =>
    rw [e] at ho
    have q := hs.sl i s e
    have hl := hs.at e
    have at_ : ∀ v, σ[i]?.join = some v → σ[i]? = some (some v) := fun v z => by
      rw [List.getElem?_eq_getElem hl] at z ⊢
      exact congrArg some z
    cases s with
    | no => exact ho.elim
    | oin _ _ => exact ho.elim
    | bor _ => exact ho.elim
    | pl d =>
      obtain ⟨v, z, r⟩ := q
      exact ⟨v, at_ v z, ho F μ H v hs.st hs.ok r⟩
    | own ds =>
      obtain ⟨p, vs, z, h, r, n, m, b⟩ := q
      exact ⟨_, at_ _ z, ho F μ H _ hs.st hs.ok ⟨p, vs, rfl, h, r, n, m, b⟩⟩
    | od ks ds =>
      obtain ⟨p, z, n, m, b, h⟩ := q
      exact ⟨_, at_ _ z, ho F μ H _ hs.st hs.ok ⟨p, rfl, n, m, b, h⟩⟩
theorem ss_retN : SS X W (.Return none pos) sRetN := PS.imp ps_retN fun D σ H ⟨B, F, μ, S, δ, hs, ho⟩ => ho F μ H .non hs.st hs.ok .non
end
def AR (K : PySem.W.Frag) (F : Hp) (μ : List Addr) (H : Hp) (v : V) : Sl → Prop
  | .pl d => Rp K F μ v d
  | .bor ds => ∃ p vs, v = .ref p ∧ H p = some (.lst vs) ∧ RpA K F μ vs ds ∧ p ∉ μ
  | _ => False
abbrev ARs (K : PySem.W.Frag) (F : Hp) (μ : List Addr) (H : Hp) : List V → List Sl → Prop := Paired (AR K F μ H)
def OF (K : PySem.W.Frag) (F : Hp) (μ : List Addr) (H : Hp) (Q : VK) (E : XK) : Rs Sl → Prop
  | .ok s S' => ∀ F' μ' H' v, Stp F μ H F' μ' H' → Ok K F' μ' S' H' → VR K H [] [] F' μ' H' v s → Q v H'
  | .ex x S' => ∀ F' μ' H' d, Stp F μ H F' μ' H' → Ok K F' μ' S' H' → XR K F' μ' H' d x → E (.ref (cA K x.c)) d H'
  | .st => False
def spF (K : PySem.W.Frag) (n : Nat) (f : Fn) : Sp := fun vs H Q E => ∃ F μ S as, as.length = n ∧ Ok K F μ S H ∧ ARs K F μ H vs as ∧ OF K F μ H Q E (f as S)
def runB (body : Fs) (n : Nat) : Fn := fun as S => (body (as ++ List.replicate (n - as.length) .no) S).bind fun r S => match r with
  | .nx _ => .ok (.pl .non) S
  | .rt v => .ok v S
  | _ => .st
theorem paired_app {α β : Type} {R : α → β → Prop} : ∀ {xs xs' : List α} {ys ys' : List β}, Paired R xs ys → Paired R xs' ys' → Paired R (xs ++ xs') (ys ++ ys')
  | _, _, _, _, .nil, s => s
  | _, _, _, _, .cons r t, s => .cons r (paired_app t s)
theorem spF_len {K : PySem.W.Frag} {n : Nat} {f : Fn} {vs : List V} {H : Hp} {Q : VK} {E : XK} (h : spF K n f vs H Q E) : vs.length = n := by
  obtain ⟨F, μ, S, as, hl, _, r, _⟩ := h
  rw [← hl]; exact Paired.length r
theorem paired_get {α β : Type} {R : α → β → Prop} : ∀ {xs : List α} {ys : List β} {i : Nat} {y : β}, Paired R xs ys → ys[i]? = some y → ∃ x, xs[i]? = some x ∧ R x y
  | _, _, _, _, .nil, e => by simp at e
  | _, _, 0, _, .cons r _, e => by simp at e; subst e; exact ⟨_, rfl, r⟩
  | _, _, i + 1, y, .cons _ t, e => by
    obtain ⟨u, h1, h2⟩ := paired_get (i := i) t (by simpa using e)
    exact ⟨u, by simpa using h1, h2⟩
theorem body_of {K : PySem.W.Frag} {N : List Str} {n : Nat} {body : Fs} {vs : List V} {H : Hp} {Q : VK} {E : XK} (hn : n ≤ N.length) (h : spF K n (runB body N.length) vs H Q E) : wS K (fun cls d _ H => E cls d H) body { nx := fun _ H' => Q .non H', rt := Q } (L2.start N vs) H := by
  obtain ⟨F, μ, S, as, hl, ok, r, ho⟩ := h
  have hvl : vs.length = as.length := Paired.length r
  refine ⟨⟨F, μ, H, F, μ, fun _ => none⟩, F, μ, S, as ++ List.replicate (N.length - as.length) .no, ⟨ok, .refl _ _ _, ?_, fun i s e => ?_, fun i j s t p e1 e2 o1 _ _ _ => ?_, .refl F, .refl μ, fun _ _ _ z _ => by cases z⟩, ?_⟩
  · unfold L2.start
    simp only [List.length_append, List.length_map, List.length_replicate]
    omega
  · by_cases c : i < as.length
    · rw [List.getElem?_append_left c] at e
      obtain ⟨v, hv, rv⟩ := paired_get r e
      have e2 : (L2.start N vs)[i]? = some (some v) := by
        unfold L2.start
        rw [List.getElem?_append_left (by rw [List.length_map, hvl]; exact c), List.getElem?_map, hv]
        rfl
      rw [e2]
      cases s with
      | pl d => exact ⟨v, rfl, rv⟩
      | bor ds =>
        obtain ⟨p, ws, rfl, h1, h2, h3⟩ := rv
        exact ⟨p, ws, rfl, h1, h2, h3⟩
      | no => trivial
      | own _ => exact (show False from rv).elim
      | od _ _ => exact (show False from rv).elim
      | oin _ _ => exact (show False from rv).elim
    · rw [List.getElem?_append_right (by omega), List.getElem?_replicate] at e
      split at e
      · cases e; trivial
      · cases e
  · exfalso
    by_cases c : i < as.length
    · rw [List.getElem?_append_left c] at e1
      obtain ⟨v, hv, rv⟩ := paired_get r e1
      cases s <;> first | exact (show False from rv).elim | cases o1
    · rw [List.getElem?_append_right (by omega), List.getElem?_replicate] at e1
      split at e1
      · cases e1; cases o1
      · cases e1
  · have ho2 : OF K F μ H Q E ((body (as ++ List.replicate (N.length - as.length) .no) S).bind fun r S => match r with
      | .nx _ => .ok (.pl .non) S
      | .rt v => .ok v S
      | _ => .st) := ho
    cases e : body (as ++ List.replicate (N.length - as.length) .no) S with
    | st => rw [e] at ho2; exact ho2
    | ex x S1 => rw [e] at ho2; exact fun F1 μ1 H1 σ1 d t o r => ho2 F1 μ1 H1 d t o r
    | ok r S1 =>
      rw [e] at ho2
      cases r with
      | nx δ1 => exact fun F1 μ1 σ1 H1 h1 => ho2 F1 μ1 H1 .non h1.st h1.ok .non
      | rt v => exact fun F1 μ1 H1 v t o r => ho2 F1 μ1 H1 v t o r
      | bk _ => exact (show False from ho2).elim
      | ct _ => exact (show False from ho2).elim
abbrev WD (E : XK) : WX := fun cls d _ H => E cls d H
theorem fn_ok {P : Program} {w : World} {K : PySem.W.Frag} {mg : Str → Option Value} {base : Heap} {x qual : Str} {params : Arguments} {bd : List Stmt} {sc : Scope} {dvs : List V} {kws : List (Str × V)} {f : Addr} {fd : FuncData} {N ps : List Str} {k : Nat} {body : Fs} (F : L2.FunD K x qual params bd sc dvs kws f fd) (S : FnScope N ps sc)
    (hl : ps.length ≤ N.length) (hb : ∀ (cdv : Value) (A : Around) (outer : List Env) (s : Shared) (H : Hp) (E : XK), Room k (A.deeper (envOfC qual sc s.heap.objs.size f cdv)) → SL (cxOf (L2.CX P w) P w K mg base N qual sc f cdv A outer s H E) (WD E) bd body) :
    FnOk P w K mg base (L2.CX P w) (k + 1) f fd ps (spF K ps.length (runB body N.length)) :=
  F.ok S (fun _ _ _ _ h => spF_len h) fun cdv A outer s H vs Q E hr h => ⟨_, hb cdv A outer s H E hr, body_of hl h⟩
section
variable {X : Cx} {W : WX} {pos p : Pos} {f : Addr} {fd : FuncData} {ps : List Str} {k : Nat} {x : Str} {e : Expr} {es : List Expr} {fs : List Fe} {h : Fn} {n : Nat} {dvs : List V} {ds : List Value} {dd : List D}
def eFn (h : Fn) (dd : List D) (fs : List Fe) : Fe := fun δ S => (fA fs δ S).bind fun ss S => h (ss ++ dd.map .pl) S
theorem OF.call {K : PySem.W.Frag} {B : Bs} {F H : Hp} {μ : List Addr} {S : Ms} {δ : Evm} {σ : L2.St} {Q : VK} (hs : StR K B F μ S δ σ H) {vs : List V} {as : List Sl} {r : Rs Sl} (o : OE K W F μ H σ δ Q r) : OF K F μ H Q (WE W σ) r := by
  cases r with
  | ok s S1 => exact fun F1 μ1 H1 v t o1 r1 => o F1 μ1 H1 v t o1 r1.of_nil
  | ex x S1 => exact fun F1 μ1 H1 d t o1 r1 => o F1 μ1 H1 d t o1 r1
  | st => exact o
theorem VAs.ar {K : PySem.W.Frag} {B : Bs} {F H : Hp} {μ : List Addr} {S : Ms} {δ : Evm} {σ : L2.St} (hs : StR K B F μ S δ σ H) : ∀ {vs : List V} {ss : List Sl}, VAs K σ δ F μ vs ss → ARs K F μ H vs ss
  | _, _, .nil => .nil
  | _, s :: _, .cons h r => .cons (by
      cases s with
      | pl d => exact h
      | bor ds =>
        obtain ⟨i, e1, e2⟩ := h
        rcases e2 with e2 | e2
        · obtain ⟨p, ws, z, hp, rr, nF, nM, _⟩ := hs.sl i _ e2
          rw [e1] at z
          cases z
          exact ⟨p, ws, rfl, hp, rr, nM⟩
        · obtain ⟨p, ws, z, hp, rr, m⟩ := hs.sl i _ e2
          rw [e1] at z
          cases z
          have hH := hs.st.kp _ _ hp m
          refine ⟨p, ws, rfl, hH, rr, fun hm => (hs.st.nm p hm).elim m fun q => by rw [hp] at q; cases q⟩
      | no => exact h
      | own _ => exact h
      | od _ _ => exact h
      | oin _ _ => exact h) (VAs.ar hs r)
theorem dfl_ar {K : PySem.W.Frag} {F H : Hp} {μ : List Addr} : ∀ {dvs : List V} {dd : List D}, Paired (fun v d => ∀ F μ, Rp K F μ v d) dvs dd → ARs K F μ H dvs (dd.map .pl)
  | _, _, .nil => .nil
  | _, _, .cons h r => .cons (h _ _) (dfl_ar r)
theorem call_of {K : PySem.W.Frag} {σ : L2.St} {H : Hp} {Q : VK} (hd : Paired (fun v d => ∀ F μ, Rp K F μ v d) dvs dd) (hn : fs.length + dd.length = n) (q : wE K W (eFn h dd fs) σ H Q) : tCallSD (spF K n h) dvs (WE W) (wA K W (fA fs)) σ H Q := by
  obtain ⟨B, F, μ, S, δ, hs, ho⟩ := q
  have fl : ∀ (fs : List Fe) (δ : Evm) (S : Ms) (ss : List Sl) (S1 : Ms), fA fs δ S = .ok ss S1 → ss.length = fs.length := by
    intro fs
    induction fs with
    | nil => intro δ S ss S1 e; cases e; rfl
    | cons f fs ih =>
      intro δ S ss S1 e
      have e2 : ((f δ S).bind fun a S => match a with
        | .pl d => (fA fs δ S).bind fun r S => .ok (.pl d :: r) S
        | .bor xs => (fA fs δ S).bind fun r S => .ok (.bor xs :: r) S
        | .own xs => (fA fs δ S).bind fun r S => .ok (.pl (.lst xs) :: r) S
        | .od ks vs => (fA fs δ S).bind fun r S => .ok (.pl (.dct ks vs) :: r) S
        | _ => .st) = Rs.ok ss S1 := e
      have aux : ∀ (s : Sl) (S2 : Ms), ((fA fs δ S2).bind fun r S => Rs.ok (s :: r) S) = Rs.ok ss S1 → ss.length = (f :: fs).length := by
        intro s S2 e3
        cases e4 : fA fs δ S2 with
        | st => rw [e4] at e3; cases e3
        | ex _ _ => rw [e4] at e3; cases e3
        | ok r S3 =>
          rw [e4] at e3
          cases e3
          rw [List.length_cons, List.length_cons, ih _ _ _ _ e4]
      cases e3 : f δ S with
      | st => rw [e3] at e2; cases e2
      | ex _ _ => rw [e3] at e2; cases e2
      | ok a S2 =>
        rw [e3] at e2
        cases a with
        | pl d => exact aux _ _ e2
        | bor d => exact aux _ _ e2
        | own d => exact aux _ _ e2
        | od _ _ => exact aux _ _ e2
        | no => cases e2
        | oin _ _ => cases e2
  refine ⟨B, F, μ, S, δ, hs, ?_⟩
  have ho2 : OE K W F μ H σ δ Q ((fA fs δ S).bind fun ss S => h (ss ++ dd.map .pl) S) := ho
  cases e : fA fs δ S with
  | st => rw [e] at ho2; exact ho2
  | ex x S1 => rw [e] at ho2; exact ho2
  | ok ss S1 =>
    rw [e] at ho2
    intro F1 μ1 H1 vs t o r
    have h1 := hs.go t o
    exact ⟨F1, μ1, S1, ss ++ dd.map .pl, by rw [List.length_append, List.length_map, fl _ _ _ _ _ e]; exact hn, o, paired_app (VAs.ar h1 r) (dfl_ar hd), OF.call (vs := vs) (as := ss) h1 (OE.go (r := h (ss ++ dd.map .pl) S1) t ho2)⟩
theorem se_fn (F : FnOk X.prog X.w X.K X.mg X.base (L2.CX X.prog X.w) k f fd ps (spF X.K n h)) (hr : Room k X.A) (hg : Gl X x) (hm : X.mg x = some (.ref f)) (hk : PySem.W.keepIn X.K (.ref f) = true) (hb : Binds X.K fd ps ds) (hd : Vals dvs ds) (hdd : Paired (fun v d => ∀ F μ, Rp X.K F μ v d) dvs dd) (hn : fs.length + dd.length = n) (tk : Takes X W)
    (ha : SA X W (e :: es) (fA fs)) (hdb : (x == ("__debug__" : Str)) = false := by decide) (he : starEach (e :: es) X.env = (false, eval e X.env) :: starEach es X.env := by rfl) (hpl : (backTo pos (starEach es X.env)).any (·.1) = false := by rfl) :
    SE X W (.Call (.Name x p) (e :: es) [] pos) (eFn h dd fs) := PE.imp (pe_callSD F hr hg hm hk hb hd (fun σ => passAt tk σ) ha hdb he hpl) fun _ _ _ => call_of hdd hn
end
end Gt
set_option Elab.async false
set_option linter.all false
set_option maxRecDepth 100000
namespace Gt
open PySem PySem.Spec PyProof.Rows L2
inductive Tg where
  | nm (i : Nat) | tp (is : List Nat)
def setAll : List Nat → List D → Evm → Option Evm
  | [], [], δ => some δ
  | i :: is, d :: ds, δ => if i < δ.length then setAll is ds (δ.set i (.pl d)) else none
  | _, _, _ => none
def setT : Tg → D → Evm → Option Evm
  | .nm i, d, δ => if i < δ.length then some (δ.set i (.pl d)) else none
  | .tp is, .tup ds, δ => setAll is ds δ
  | _, _, _ => none
def gAll : List Nat → TGs
  | [] => gNil
  | i :: is => gCons (gName i) (gAll is)
def gTg (K : PySem.W.Frag) : Tg → TG
  | .nm i => gName i
  | .tp is => gTup K is.length (gAll is)
def slotsT : Tg → List Nat
  | .nm i => [i]
  | .tp is => is
section
variable {K : PySem.W.Frag} {W : WX} {B : Bs} {F F' H H' : Hp} {μ μ' : List Addr} {S S' : Ms} {δ δ' : Evm} {σ : L2.St}
theorem setAll_len : ∀ {is : List Nat} {ds : List D} {δ δ' : Evm}, setAll is ds δ = some δ' → ds.length = is.length
  | [], [], _, _, _ => rfl
  | i :: is, d :: ds, δ, δ', e => by
    unfold setAll at e
    split at e
    · rw [List.length_cons, List.length_cons, setAll_len e]
    · cases e
  | [], _ :: _, _, _, e => by cases e
  | _ :: _, [], _, _, e => by cases e
theorem gAll_of {Q : L2.St → Hp → Prop} : ∀ {is : List Nat} {ds : List D} {vs : List V} {δ δ' : Evm} {σ : L2.St}, StR K B F μ S δ σ H → RpA K F μ vs ds → setAll is ds δ = some δ' → (∀ σ', StR K B F μ S δ' σ' H → (∀ j : Nat, j ∉ is → σ'[j]? = σ[j]? ∧ δ'[j]? = δ[j]?) → σ'.length = σ.length → Q σ' H) → gAll is vs σ H Q
  | [], [], _, _, _, _, hs, .nil, e, k => by
    cases e
    exact ⟨rfl, k _ hs (fun _ _ => ⟨rfl, rfl⟩) rfl⟩
  | i :: is, d :: ds, _, δ, _, σ, hs, .cons (v := v) r rs, e, k => by
    unfold setAll at e
    split at e
    · rename_i c
      refine ⟨_, _, rfl, ?_⟩
      refine gAll_of (hs.putP c r) rs e fun σ' h' kk hl => k σ' h' (fun j hj => ?_) (by rw [hl, List.length_set])
      have h1 : j ≠ i := fun z => hj (by rw [z]; exact List.mem_cons_self)
      have h2 : j ∉ is := fun z => hj (List.mem_cons_of_mem _ z)
      obtain ⟨a, b⟩ := kk j h2
      rw [a, b, List.getElem?_set_ne (Ne.symm h1), List.getElem?_set_ne (Ne.symm h1)]
      exact ⟨rfl, rfl⟩
    · cases e
  | [], _ :: _, _, _, _, _, _, _, e, _ => by cases e
  | _ :: _, [], _, _, _, _, _, _, e, _ => by cases e
theorem gTg_of {Q : L2.St → Hp → Prop} {t : Tg} {d : D} {v : V} (hs : StR K B F μ S δ σ H) (r : Rp K F μ v d) (e : setT t d δ = some δ') (k : ∀ σ', StR K B F μ S δ' σ' H → (∀ j : Nat, j ∉ slotsT t → σ'[j]? = σ[j]? ∧ δ'[j]? = δ[j]?) → σ'.length = σ.length → Q σ' H) : gTg K t v σ H Q := by
  cases t with
  | nm i =>
    simp only [setT] at e
    split at e
    · rename_i c
      cases e
      refine k _ (hs.putP c r) (fun j hj => ?_) (List.length_set ..)
      have h1 : j ≠ i := fun z => hj (by rw [z]; exact List.mem_cons_self)
      rw [List.getElem?_set_ne (Ne.symm h1), List.getElem?_set_ne (Ne.symm h1)]
      exact ⟨rfl, rfl⟩
    · cases e
  | tp is =>
    cases d <;> simp only [setT, reduceCtorEq] at e
    case tup ds =>
      cases r with
      | tup h rs => exact ⟨_, _, rfl, SqT.of (hs.ok.sub _ _ h), by rw [rs.len]; exact setAll_len e, gAll_of hs rs e k⟩
end
def itemsD : D → Option (List D)
  | .lst xs => some xs
  | .tup xs => some xs
  | .str z => some (z.cps.toList.map fun c => .str ⟨#[c]⟩)
  | _ => none
abbrev Fi := Evm → Ms → Rs (List D)
structure Walk (K : PySem.W.Frag) (J : It) (xs : List D) (G : Hp → List Addr → Hp → Prop) : Prop where
  go : ∀ {F : Hp} {μ : List Addr} {S : Ms} {H : Hp} {k : Nat} {d : D}, Ok K F μ S H → G F μ H → xs[k]? = some d → J.go k H ∧ ∀ x H', J.yld k H x H' → ∃ F', Stp F μ H F' μ H' ∧ Ok K F' μ S H' ∧ Rp K F' μ x d
  stop : ∀ {F : Hp} {μ : List Addr} {S : Ms} {H : Hp} {k : Nat}, Ok K F μ S H → G F μ H → xs.length ≤ k → J.stop k H
def Zk (keep : Option (List Nat)) (δ : Evm) (σ : L2.St) (δ' : Evm) (σ' : L2.St) : Prop := match keep with
  | none => True
  | some vs => ∀ i : Nat, i ∉ vs → σ'[i]? = σ[i]? ∧ δ'[i]? = δ[i]?
def OI (K : PySem.W.Frag) (W : WX) (keep : Option (List Nat)) (B : Bs) (F : Hp) (μ : List Addr) (H : Hp) (σ : L2.St) (δ : Evm) (R : It → Hp → Prop) : Rs (List D) → Prop
  | .ok xs S' => ∀ F' μ' H' J G, Stp F μ H F' μ' H' → Ok K F' μ' S' H' → Walk K J xs G →
      (∀ A' α' F2 μ2 S2 δ2 σ2 H2, StR K { B with A := A', α := α' } F2 μ2 S2 δ2 σ2 H2 → Sub F' F2 → Ap μ' μ2 → Zk keep δ σ δ2 σ2 → G F2 μ2 H2) → R J H'
  | .ex x S' => XW K W F μ H σ x S'
  | .st => False
def wI (K : PySem.W.Frag) (W : WX) (keep : Option (List Nat)) (f : Fi) : TI := fun σ H R => ∃ B F μ S δ, StR K B F μ S δ σ H ∧ OI K W keep B F μ H σ δ R (f δ S)
abbrev SI (X : Cx) (W : WX) (keep : Option (List Nat)) (tg e : Expr) (f : Fi) : Prop := PI X tg e (wI X.K W keep f)
theorem PI.imp {X : Cx} {tg e : Expr} {t t' : TI} (h : PI X tg e t) (i : ∀ σ H R, t' σ H R → t σ H R) : PI X tg e t' := ⟨fun pins s σ H R I q => h.run pins s σ H R I (i σ H R q)⟩
def iAny (K : PySem.W.Frag) (tl : TE) : TI := fun σ H R => tl σ H fun x H1 => (∃ a, x = .ref a ∧ (∃ xs, SqL K H1 a xs) ∧ R (Itl K a) H1) ∨ (∃ a, x = .ref a ∧ (∃ xs, SqT K H1 a xs) ∧ R (Itt K a) H1) ∨ ∃ z, x = .str z ∧ R (Its z) H1
theorem pi_any {X : Cx} {tg l : Expr} {tl : TE} (hl : PE X l tl) : PI X tg l (iAny X.K tl) := by
  refine ⟨fun pins s σ H R I h => ?_⟩
  refine thn (hl.run pins s σ H _ I h) fun v s1 ⟨x, H1, I1, r1, q1⟩ => ?_
  rcases q1 with ⟨a, e, ⟨xs, hq⟩, q⟩ | ⟨a, e, ⟨xs, hq⟩, q⟩ | ⟨z, e, q⟩
  · subst e
    cases r1
    obtain ⟨its, rv, p, hz⟩ := I1.list hq
    refine wpAny_pyIter_list p.isList ?_
    refine ⟨s1.heap.objs.size, [s1.heap.objs.size], _, _, H1, rfl, I1.kept (t' := s1.toks) fun b o e => Heap.get?_push_of_some _ e, turn_list a _, ⟨_, Heap.get?_push_size _ rfl, rfl, rfl⟩, fun b hb => ?_, q⟩
    have e : b = s1.heap.objs.size := by simpa using hb
    subst e
    exact I1.fpOk (Nat.le_refl _) (I1.hok.fresh (Nat.le_refl _))
  · subst e
    cases r1
    obtain ⟨its, rv, p, hz⟩ := I1.tuple hq
    refine wpAny_pyIter_tuple (show s1.heap.IsTuple a its.toArray from p) ?_
    refine ⟨s1.heap.objs.size, [s1.heap.objs.size], _, _, H1, rfl, I1.kept (t' := s1.toks) fun b o e => Heap.get?_push_of_some _ e, turn_tuple a _, ⟨_, Heap.get?_push_size _ rfl, rfl, rfl⟩, fun b hb => ?_, q⟩
    have e : b = s1.heap.objs.size := by simpa using hb
    subst e
    exact I1.fpOk (Nat.le_refl _) (I1.hok.fresh (Nat.le_refl _))
  · subst e
    obtain ⟨t, rfl⟩ := r1
    cases ha : z.cps.all (· < 128)
    · exact wpAny_pyIter_wide ha (pi_one (tk := s1.toks) I1 _ (turn_str _ z t "str_iterator" (.inr rfl)) ⟨_, Heap.get?_push_size _ rfl, rfl, rfl⟩ q)
    · exact wpAny_pyIter_ascii ha (pi_one (tk := s1.toks) I1 _ (turn_str _ z t "str_ascii_iterator" (.inl rfl)) ⟨_, Heap.get?_push_size _ rfl, rfl, rfl⟩ q)
section
variable {K : PySem.W.Frag}
theorem sql_one {H : Hp} {a : Addr} {vs xs : List V} (h : H a = some (.lst vs)) (q : SqL K H a xs) (n : ∀ (o : Obj), K.lookup a = some o → False) : xs = vs := by
  rcases q with q | ⟨o, _, _, e, _⟩
  · rcases q with q | ⟨o, q⟩
    · rw [h] at q; cases q; rfl
    · rw [h] at q; cases q
  · exact (n o e).elim
theorem walk_lst {a : Addr} {xs : List D} (n : True) : Walk K (Itl K a) xs fun F μ H => ∃ vs, H a = some (.lst vs) ∧ RpA K F μ vs xs where
  go := fun {F μ S H k d} o ⟨vs, h, r⟩ e => by
    obtain ⟨v, hv, rv⟩ := r.getD e
    exact ⟨⟨vs, v, SqL.of h, hv⟩, fun x H' ⟨e1, e2⟩ => by
      subst e1
      have := e2 vs (SqL.of h)
      rw [hv] at this
      cases this
      exact ⟨F, .refl _ _ _, o, rv⟩⟩
  stop := fun {F μ S H k} o ⟨vs, h, r⟩ hk => ⟨vs, SqL.of h, by rw [r.len]; exact hk⟩
theorem walk_tup {a : Addr} {xs : List D} : Walk K (Itt K a) xs fun F μ H => ∃ vs, SqT K H a vs ∧ RpA K F μ vs xs where
  go := fun {F μ S H k d} o ⟨vs, h, r⟩ e => by
    obtain ⟨v, hv, rv⟩ := r.getD e
    exact ⟨⟨vs, v, h, hv⟩, fun x H' ⟨e1, e2⟩ => by
      subst e1
      have := e2 vs h
      rw [hv] at this
      cases this
      exact ⟨F, .refl _ _ _, o, rv⟩⟩
  stop := fun {F μ S H k} o ⟨vs, h, r⟩ hk => ⟨vs, h, by rw [r.len]; exact hk⟩
theorem walk_str {z : Str} : Walk K (Its z) (z.cps.toList.map fun c => D.str ⟨#[c]⟩) fun _ _ _ => True where
  go := fun {F μ S H k d} o _ e => by
    rw [List.getElem?_map] at e
    cases q : z.cps.toList[k]? with
    | none => rw [q] at e; cases e
    | some c =>
      rw [q] at e
      cases e
      have hk : k < z.cps.size := by
        have := (List.getElem?_eq_some_iff.mp q).1
        simpa using this
      refine ⟨hk, fun x H' ⟨e1, c', e2, e3⟩ => ?_⟩
      subst e1 e3
      have : z.cps[k]? = z.cps.toList[k]? := by simp
      rw [this, q] at e2
      cases e2
      exact ⟨F, .refl _ _ _, o, .str _⟩
  stop := fun {F μ S H k} o _ hk => by
    show z.cps.size ≤ k
    simpa using hk
theorem Rp.lst_inv {F : Hp} {μ : List Addr} {v : V} {xs : List D} (h : Rp K F μ v (.lst xs)) : ∃ a vs, v = .ref a ∧ F a = some (.lst vs) ∧ RpA K F μ vs xs := by
  cases h with
  | lst h r => exact ⟨_, _, rfl, h, r⟩
theorem Rp.tup_inv {F : Hp} {μ : List Addr} {v : V} {xs : List D} (h : Rp K F μ v (.tup xs)) : ∃ a vs, v = .ref a ∧ SqT K F a vs ∧ RpA K F μ vs xs := by
  cases h with
  | tup h r => exact ⟨_, _, rfl, SqT.of h, r⟩
theorem Rp.tup_inv' {F : Hp} {μ : List Addr} {v : V} {xs : List D} (h : Rp K F μ v (.tup xs)) : ∃ a vs, v = .ref a ∧ F a = some (.tup vs) ∧ RpA K F μ vs xs := by
  cases h with
  | tup h r => exact ⟨_, _, rfl, h, r⟩
theorem Rp.str_inv {F : Hp} {μ : List Addr} {v : V} {z : Str} (h : Rp K F μ v (.str z)) : v = .str z := by
  cases h; rfl
end
def iE (f : Fe) : Fi := fun δ S => (f δ S).bind fun a S => match toP a with
  | some d => (match itemsD d with
    | some xs => .ok xs S
    | none => .st)
  | none => .st
def iV (i : Nat) : Fi := fun δ S => match δ[i]? with
  | some (.bor xs) => .ok xs S
  | some (.pl d) => (match itemsD d with
    | some xs => .ok xs S
    | none => .st)
  | _ => .st
def iVc (i : Nat) : Fi := fun δ S => match δ[i]? with
  | some (.bor xs) => .ok xs S
  | some (.own xs) => .ok xs S
  | some (.pl d) => (match itemsD d with
    | some xs => .ok xs S
    | none => .st)
  | _ => .st
section
variable {X : Cx} {W : WX} {e tg : Expr} {f : Fe} {pos : Pos} {keep : Option (List Nat)}
theorem shared_it {K : PySem.W.Frag} {B : Bs} {F : Hp} {μ : List Addr} {S : Ms} {H : Hp} {σ : L2.St} {δ : Evm} {R : It → Hp → Prop} {v : V} {d : D} {xs : List D} (ok : Ok K F μ S H) (r : Rp K F μ v d) (hi : itemsD d = some xs) (ho : OI K W keep B F μ H σ δ R (.ok xs S)) :
    (∃ a, v = .ref a ∧ (∃ xs, SqL K H a xs) ∧ R (Itl K a) H) ∨ (∃ a, v = .ref a ∧ (∃ xs, SqT K H a xs) ∧ R (Itt K a) H) ∨ ∃ z, v = .str z ∧ R (Its z) H := by
  cases d <;> simp only [itemsD, reduceCtorEq, Option.some.injEq] at hi
  case lst ys =>
    subst hi
    obtain ⟨a, vs, rfl, h, rr⟩ := r.lst_inv
    exact .inl ⟨a, rfl, ⟨vs, SqL.of (ok.sub _ _ h)⟩, ho F μ H _ _ (.refl _ _ _) ok (walk_lst trivial) fun A' α' F2 μ2 S2 δ2 σ2 H2 h2 s m _ => ⟨vs, h2.ok.sub _ _ (s _ _ h), rr.mono s m⟩⟩
  case tup ys =>
    subst hi
    obtain ⟨a, vs, rfl, h, rr⟩ := r.tup_inv
    exact .inr (.inl ⟨a, rfl, ⟨vs, sub_t ok.sub h⟩, ho F μ H _ _ (.refl _ _ _) ok walk_tup fun A' α' F2 μ2 S2 δ2 σ2 H2 h2 s m _ => ⟨vs, sub_t h2.ok.sub (sub_t s h), rr.mono s m⟩⟩)
  case str z =>
    subst hi
    have := r.str_inv
    subst this
    exact .inr (.inr ⟨z, rfl, ho F μ H _ _ (.refl _ _ _) ok walk_str fun _ _ _ _ _ _ _ _ _ _ _ _ => trivial⟩)
theorem OI.go {K : PySem.W.Frag} {B : Bs} {F F' H H' : Hp} {μ μ' : List Addr} {σ : L2.St} {δ : Evm} {R : It → Hp → Prop} (t : Stp F μ H F' μ' H') : ∀ {r : Rs (List D)}, OI K W keep B F μ H σ δ R r → OI K W keep B F' μ' H' σ δ R r
  | .ok _ _, h => fun F1 μ1 H1 J G t1 o1 w k => h F1 μ1 H1 J G (t.trans t1) o1 w k
  | .ex _ _, h => fun F1 μ1 H1 d t1 o1 r => h F1 μ1 H1 d (t.trans t1) o1 r
  | .st, h => h
theorem si_e (he : SE X W e f) : SI X W keep tg e (iE f) := PI.imp (pi_any he) fun σ H R ⟨B, F, μ, S, δ, hs, ho⟩ => by
  refine ⟨B, F, μ, S, δ, hs, ?_⟩
  have ho2 : OI X.K W keep B F μ H σ δ R ((f δ S).bind fun a S => match toP a with
    | some d => (match itemsD d with
      | some xs => .ok xs S
      | none => .st)
    | none => .st) := ho
  have fin : ∀ (d : D) (S1 : Ms) (F1 : Hp) (μ1 : List Addr) (H1 : Hp) (v : V), Stp F μ H F1 μ1 H1 → Ok X.K F1 μ1 S1 H1 → Rp X.K F1 μ1 v d → OI X.K W keep B F μ H σ δ R (match itemsD d with
      | some xs => .ok xs S1
      | none => .st) → (∃ a, v = .ref a ∧ (∃ xs, SqL X.K H1 a xs) ∧ R (Itl X.K a) H1) ∨ (∃ a, v = .ref a ∧ (∃ xs, SqT X.K H1 a xs) ∧ R (Itt X.K a) H1) ∨ ∃ z, v = .str z ∧ R (Its z) H1 := fun d S1 F1 μ1 H1 v t o r oo => by
    cases q : itemsD d with
    | none => rw [q] at oo; exact (show False from oo).elim
    | some xs => rw [q] at oo; exact shared_it o r q (OI.go (r := .ok xs S1) t oo)
  cases q : f δ S with
  | st => rw [q] at ho2; exact ho2
  | ex x S1 => rw [q] at ho2; exact ho2
  | ok s S1 =>
    rw [q] at ho2
    cases s with
    | no => exact (show False from ho2).elim
    | oin _ _ => exact (show False from ho2).elim
    | bor _ => exact (show False from ho2).elim
    | pl d => exact fun F1 μ1 H1 v t o r => fin d S1 F1 μ1 H1 v t o r ho2
    | own ds =>
      rintro F1 μ1 H1 v t o ⟨p, vs, rfl, h, r, nF, nM, hn⟩
      obtain ⟨t2, o2⟩ := freeze t o h hn nF nM
      exact fin (.lst ds) S1 _ μ1 H1 _ t2 o2 (.lst upd_same (r.mono (Sub.new nF) (.refl _))) ho2
    | od ks ds => exact (show False from ho2).elim
theorem si_v {i : Nat} {x : Str} (h : PE X (.Name x pos) (tVar i)) : SI X W keep tg (.Name x pos) (iV i) := PI.imp (pi_any h) fun σ H R ⟨B, F, μ, S, δ, hs, ho⟩ => by
  unfold iV at ho
  cases e : δ[i]? with
  | none => rw [e] at ho; exact ho.elim
  | some s =>
    rw [e] at ho
    have q := hs.sl i s e
    have hl := hs.at e
    have at_ : ∀ v, σ[i]?.join = some v → σ[i]? = some (some v) := fun v z => by
      rw [List.getElem?_eq_getElem hl] at z ⊢
      exact congrArg some z
    cases s with
    | no => exact ho.elim
    | oin _ _ => exact ho.elim
    | own _ => exact ho.elim
    | od _ _ => exact ho.elim
    | pl d =>
      obtain ⟨v, z, r⟩ := q
      cases q : itemsD d with
      | none => simp only [q] at ho; exact ho.elim
      | some xs => simp only [q] at ho; exact ⟨v, at_ v z, shared_it hs.ok r q ho⟩
    | bor ds =>
      obtain ⟨p, vs, z, h, r, m⟩ := q
      have hH := hs.st.kp _ _ h m
      exact ⟨_, at_ _ z, .inl ⟨p, rfl, ⟨vs, SqL.of hH⟩, ho F μ H _ _ (.refl _ _ _) hs.ok (walk_lst trivial) fun A' α' F2 μ2 S2 δ2 σ2 H2 h2 s mm _ => ⟨vs, h2.st.kp _ _ h m, r.mono s mm⟩⟩⟩
theorem si_vc {i : Nat} {x : Str} {vs : List Nat} (hi : i ∉ vs) (h : PE X (.Name x pos) (tVar i)) : SI X W (some vs) tg (.Name x pos) (iVc i) := PI.imp (pi_any h) fun σ H R ⟨B, F, μ, S, δ, hs, ho⟩ => by
  unfold iVc at ho
  cases e : δ[i]? with
  | none => rw [e] at ho; exact ho.elim
  | some s =>
    rw [e] at ho
    have q := hs.sl i s e
    have hl := hs.at e
    have at_ : ∀ v, σ[i]?.join = some v → σ[i]? = some (some v) := fun v z => by
      rw [List.getElem?_eq_getElem hl] at z ⊢
      exact congrArg some z
    cases s with
    | no => exact ho.elim
    | oin _ _ => exact ho.elim
    | od _ _ => exact ho.elim
    | pl d =>
      obtain ⟨v, z, r⟩ := q
      cases q : itemsD d with
      | none => simp only [q] at ho; exact ho.elim
      | some xs => simp only [q] at ho; exact ⟨v, at_ v z, shared_it hs.ok r q ho⟩
    | bor ds =>
      obtain ⟨p, vs, z, h, r, m⟩ := q
      have hH := hs.st.kp _ _ h m
      exact ⟨_, at_ _ z, .inl ⟨p, rfl, ⟨vs, SqL.of hH⟩, ho F μ H _ _ (.refl _ _ _) hs.ok (walk_lst trivial) fun A' α' F2 μ2 S2 δ2 σ2 H2 h2 s mm _ => ⟨vs, h2.st.kp _ _ h m, r.mono s mm⟩⟩⟩
    | own ds =>
      obtain ⟨p, ws, z, h, r, n, m, b⟩ := q
      refine ⟨_, at_ _ z, .inl ⟨p, rfl, ⟨ws, SqL.of h⟩, ho F μ H _ _ (.refl _ _ _) hs.ok (walk_lst trivial) fun A' α' F2 μ2 S2 δ2 σ2 H2 h2 s mm zz => ?_⟩⟩
      obtain ⟨z1, z2⟩ := zz i hi
      obtain ⟨p2, ws2, e3, h3, r3, _⟩ := h2.sl i (.own ds) (z2.trans e)
      rw [z1, at_ _ z] at e3
      cases e3
      exact ⟨ws2, h3, r3⟩
end
def loop (g : Tg) (body : Fs) : List D → Evm → Ms → Rs Fl
  | [], δ, S => .ok (.nx δ) S
  | d :: ds, δ, S => match setT g d δ with
    | none => .st
    | some δ1 => (body δ1 S).bind fun r S1 => match r with
      | .nx δ2 => loop g body ds δ2 S1
      | .ct δ2 => loop g body ds δ2 S1
      | .bk δ2 => .ok (.nx δ2) S1
      | .rt v => .ok (.rt v) S1
def sFor (g : Tg) (fi : Fi) (body : Fs) : Fs := fun δ S => (fi δ S).bind fun xs S => loop g body xs δ S
section
variable {X : Cx} {W : WX} {e tg : Expr} {f : Fi} {pos : Pos} {g : Tg} {body : Fs} {bd : List Stmt}
theorem StR.re {K : PySem.W.Frag} {B : Bs} {F H : Hp} {μ : List Addr} {S : Ms} {δ : Evm} {σ : L2.St} (h : StR K B F μ S δ σ H) : StR K { B with A := F, α := μ } F μ S δ σ H :=
  ⟨h.ok, h.st, h.len, fun i s e => by cases s <;> exact h.sl i _ e, h.dj, .refl F, .refl μ, h.pn⟩
theorem StR.un {K : PySem.W.Frag} {B : Bs} {A : Hp} {α : List Addr} {F H : Hp} {μ : List Addr} {S : Ms} {δ : Evm} {σ : L2.St} (h : StR K { B with A := A, α := α } F μ S δ σ H) (a : Sub B.A A) (b : Ap B.α α) : StR K B F μ S δ σ H :=
  ⟨h.ok, h.st, h.len, fun i s e => by cases s <;> exact h.sl i _ e, h.dj, a.trans h.an, b.trans h.am, h.pn⟩
theorem for_of {K : PySem.W.Frag} {D : Ends} {σ : L2.St} {H : Hp} (q : wS K W (sFor g f body) D σ H) : tFor (wI K W none f) (gTg K g) (wS K W body) D σ H := by
  obtain ⟨B, F, μ, S, δ, hs, ho⟩ := q
  refine ⟨B, F, μ, S, δ, hs, ?_⟩
  have ho2 : OS K W B D ((f δ S).bind fun xs S => loop g body xs δ S) := ho
  cases e : f δ S with
  | st => rw [e] at ho2; exact ho2
  | ex x S1 => rw [e] at ho2; exact fun F' μ' H' d t o r => ho2 F' μ' H' σ d (hs.st.trans t) o r
  | ok xs S1 =>
    rw [e] at ho2
    intro F1 μ1 H1 J G t1 o1 wk kp
    have h1 := hs.go t1 o1
    refine ⟨fun i m σ H => m = xs.length - i ∧ i ≤ xs.length ∧ ∃ F2 μ2 S2 δ2, StR K B F2 μ2 S2 δ2 σ H ∧ Sub F1 F2 ∧ Ap μ1 μ2 ∧ OS K W B D (loop g body (xs.drop i) δ2 S2), ⟨_, rfl, Nat.zero_le _, F1, μ1, S1, δ, h1, .refl _, .refl _, by rw [List.drop_zero]; exact ho2⟩, ?_⟩
    rintro i m σ2 H2 ⟨rfl, hi, F2, μ2, S2, δ2, h2, s2, m2, o2⟩
    have gd : G F2 μ2 H2 := kp _ _ F2 μ2 S2 δ2 σ2 H2 h2.re s2 m2 trivial
    by_cases hlt : i < xs.length
    · have hd : xs.drop i = xs[i] :: xs.drop (i + 1) := List.drop_eq_getElem_cons hlt
      rw [hd] at o2
      have hx : xs[i]? = some xs[i] := List.getElem?_eq_getElem hlt
      obtain ⟨hgo, hy⟩ := wk.go h2.ok gd hx
      refine .inr ⟨hgo, fun σ' H' => ∃ F3 μ3 S3 δ3, StR K B F3 μ3 S3 δ3 σ' H' ∧ Sub F1 F3 ∧ Ap μ1 μ3 ∧ OS K W B D (loop g body (xs.drop (i + 1)) δ3 S3), fun σ' H' n => ⟨xs.length - (i + 1), by omega, rfl, hlt, n⟩, fun x H' y => ?_⟩
      obtain ⟨F3, t3, o3, r3⟩ := hy x H' y
      have h3 := h2.go t3 o3
      simp only [loop] at o2
      cases e4 : setT g xs[i] δ2 with
      | none => rw [e4] at o2; exact (show False from o2).elim
      | some δ4 =>
        rw [e4] at o2
        dsimp only at o2
        refine gTg_of h3 r3 e4 fun σ4 h4 _ _ => ?_
        refine ⟨{ B with A := F3, α := μ2 }, F3, μ2, S2, δ4, h4.re, ?_⟩
        have back : ∀ {F5 μ5 S5 δ5 σ5 H5}, StR K { B with A := F3, α := μ2 } F5 μ5 S5 δ5 σ5 H5 → StR K B F5 μ5 S5 δ5 σ5 H5 ∧ Sub F1 F5 ∧ Ap μ1 μ5 := fun {F5 μ5 S5 δ5 σ5 H5} h5 => ⟨h5.un h3.an h3.am, (s2.trans t3.fr).trans h5.an, m2.trans h5.am⟩
        cases e5 : body δ4 S2 with
        | st => rw [e5] at o2; exact o2
        | ex x S5 => rw [e5] at o2; exact o2
        | ok r S5 =>
          rw [e5] at o2
          cases r with
          | nx δ5 => exact fun F5 μ5 σ5 H5 h5 => let ⟨a, b, c⟩ := back h5; ⟨F5, μ5, S5, δ5, a, b, c, o2⟩
          | ct δ5 => exact fun F5 μ5 σ5 H5 h5 => let ⟨a, b, c⟩ := back h5; ⟨F5, μ5, S5, δ5, a, b, c, o2⟩
          | bk δ5 => exact fun F5 μ5 σ5 H5 h5 => let ⟨a, b, c⟩ := back h5; o2 F5 μ5 σ5 H5 a
          | rt v => exact o2
    · have ei : i = xs.length := by omega
      refine .inl ⟨wk.stop h2.ok gd (by omega), ?_⟩
      rw [ei, List.drop_length] at o2
      exact o2 F2 μ2 σ2 H2 h2
theorem ss_for (hp : PassesOwn (model X.prog X.w) X.A X.env X.xe) (hc : X.calm = true) (hi : SI X W none tg e f) (hg : PG X tg (gTg X.K g)) (hb : SL X W bd body) (hs : ∀ x, foldedSetIterable e X.env x = pure x := by intro _; rfl) : SS X W (.For tg e bd [] pos) (sFor g f body) :=
  PS.imp (ps_for hp hc hi hg hb hs) fun _ _ _ => for_of
end
end Gt
set_option Elab.async false
set_option linter.all false
set_option maxRecDepth 100000
namespace Gt
open PySem PySem.Spec PyProof.Rows L2
def cut {α : Type} : Rs α → Rs α
  | .ok a S => .ok a S
  | _ => .st
@[simp] theorem cut_ok {α : Type} {a : α} {S : Ms} : cut (.ok a S) = .ok a S := rfl
def wipeD (δ : Evm) : List Nat → Evm
  | [] => δ
  | v :: vs => (wipeD δ vs).set v .no
def compL (g : Tg) (t : Ft) (fe : Fe) (δ : Evm) : List D → Ms → Rs (List D)
  | [], S => .ok [] S
  | d :: ds, S => match setT g d δ with
    | none => .st
    | some δ1 => (cut (t δ1 S)).bind fun b S1 => if b = true then (cut (fe δ1 S1)).bind fun a S2 => match toP a with
        | some y => (compL g t fe δ ds S2).bind fun ys S => .ok (y :: ys) S
        | none => .st
      else compL g t fe δ ds S1
def eComp (g : Tg) (fi : Fi) (t : Ft) (fe : Fe) : Fe := fun δ S => (fi δ S).bind fun xs S => if xs.length ≤ cap then (compL g t fe (wipeD δ (slotsT g)) xs S).bind fun ys S => .ok (.own ys) S else .st
def tYes' : Ft := fun _ S => .ok true S
@[simp] theorem tYes_ev {δ : Evm} {S : Ms} : tYes' δ S = .ok true S := rfl
abbrev W0 : WX := fun _ _ _ _ => False
section
variable {K : PySem.W.Frag} {W : WX} {B : Bs} {F F' H H' : Hp} {μ μ' : List Addr} {S S' : Ms} {δ δ' : Evm} {σ : L2.St}
theorem wipeD_len : ∀ (vs : List Nat) (δ : Evm), (wipeD δ vs).length = δ.length
  | [], _ => rfl
  | v :: vs, δ => by unfold wipeD; rw [List.length_set, wipeD_len vs δ]
theorem StR.no (hs : StR K B F μ S δ σ H) (i : Nat) : StR K B F μ S (δ.set i .no) (σ.set i none) H := by
  refine ⟨hs.ok, hs.st, by rw [List.length_set, List.length_set, hs.len], fun j t e => ?_, fun j k t u p e1 e2 o1 o2 z1 z2 => ?_, hs.an, hs.am, fun j p ds h1 h2 => by
    by_cases q : j = i
    · subst q
      by_cases c : j < δ.length
      · rw [List.getElem?_set_self c] at h2; cases h2
      · rw [List.getElem?_eq_none (by rw [List.length_set]; omega)] at h2; cases h2
    · rw [List.getElem?_set_ne (Ne.symm q)] at h2 ⊢
      exact hs.pn j p ds h1 h2⟩
  · by_cases q : j = i
    · subst q
      by_cases c : j < δ.length
      · rw [List.getElem?_set_self c] at e
        cases e
        trivial
      · rw [List.getElem?_eq_none (by rw [List.length_set]; omega)] at e
        cases e
    · rw [List.getElem?_set_ne (Ne.symm q)] at e ⊢
      exact hs.sl j t e
  · have h1 : j ≠ i := fun q => by
      subst q
      by_cases c : j < δ.length
      · rw [List.getElem?_set_self c] at e1; cases e1; cases o1
      · rw [List.getElem?_eq_none (by rw [List.length_set]; omega)] at e1; cases e1
    have h2 : k ≠ i := fun q => by
      subst q
      by_cases c : k < δ.length
      · rw [List.getElem?_set_self c] at e2; cases e2; cases o2
      · rw [List.getElem?_eq_none (by rw [List.length_set]; omega)] at e2; cases e2
    rw [List.getElem?_set_ne (Ne.symm h1)] at e1 z1
    rw [List.getElem?_set_ne (Ne.symm h2)] at e2 z2
    exact hs.dj j k t u p e1 e2 o1 o2 z1 z2
theorem StR.wipe (hs : StR K B F μ S δ σ H) : ∀ vs : List Nat, StR K B F μ S (wipeD δ vs) (L2.wipe σ vs) H
  | [] => hs
  | v :: vs => (StR.wipe hs vs).no v
theorem wipe_get : ∀ (vs : List Nat) (σ : L2.St) (i : Nat), (L2.wipe σ vs)[i]? = if i ∈ vs then (σ[i]?).map (fun _ => none) else σ[i]?
  | [], σ, i => by simp [L2.wipe]
  | v :: vs, σ, i => by
    unfold L2.wipe
    by_cases e : v = i
    · subst e
      rw [if_pos List.mem_cons_self]
      by_cases c : v < (L2.wipe σ vs).length
      · rw [List.getElem?_set_self c]
        have c2 : v < σ.length := by rw [wipe_length] at c; exact c
        rw [List.getElem?_eq_getElem c2]
        rfl
      · have c2 : σ.length ≤ v := by rw [wipe_length] at c; omega
        rw [List.getElem?_eq_none (by rw [List.length_set]; omega), List.getElem?_eq_none c2]
        rfl
    · rw [List.getElem?_set_ne e, wipe_get vs σ i]
      have : i ∈ v :: vs ↔ i ∈ vs := by
        constructor
        · intro h
          rcases List.mem_cons.mp h with z | z
          · exact absurd z.symm e
          · exact z
        · exact List.mem_cons_of_mem _
      by_cases q : i ∈ vs
      · rw [if_pos q, if_pos (this.mpr q)]
      · rw [if_neg q, if_neg fun z => q (this.mp z)]
theorem wipeD_get : ∀ (vs : List Nat) (δ : Evm) (i : Nat), i ∉ vs → (wipeD δ vs)[i]? = δ[i]?
  | [], δ, i, _ => rfl
  | v :: vs, δ, i, h => by
    unfold wipeD
    have h1 : v ≠ i := fun z => h (by rw [z]; exact List.mem_cons_self)
    rw [List.getElem?_set_ne h1, wipeD_get vs δ i fun z => h (List.mem_cons_of_mem _ z)]
theorem wipe_same {vs : List Nat} {σ σ' : L2.St} (hl : σ'.length = σ.length) (h : ∀ j : Nat, j ∉ vs → σ'[j]? = σ[j]?) : L2.wipe σ' vs = L2.wipe σ vs := by
  apply List.ext_getElem?
  intro i
  rw [wipe_get, wipe_get]
  by_cases q : i ∈ vs
  · rw [if_pos q, if_pos q]
    by_cases c : i < σ.length
    · rw [List.getElem?_eq_getElem c, List.getElem?_eq_getElem (by omega : i < σ'.length)]
      rfl
    · rw [List.getElem?_eq_none (by omega : σ.length ≤ i), List.getElem?_eq_none (by omega : σ'.length ≤ i)]
  · rw [if_neg q, if_neg q, h i q]
theorem wipe_idem {vs : List Nat} {σ : L2.St} : L2.wipe (L2.wipe σ vs) vs = L2.wipe σ vs := wipe_same (wipe_length ..) fun j hj => by rw [wipe_get, if_neg hj]
theorem StR.tmp (hs : StR K B F μ S δ σ H) {p : Addr} {u : HO} (hb : B.H p = none) (nF : F p = none) (nM : p ∉ μ) (far : ∀ (j : Nat) (w : Sl), δ[j]? = some w → isOwn w = true → σ[j]? ≠ some (some (V.ref p))) : StR K B F μ S δ σ (upd H p u) := by
  refine ⟨⟨fun a x q => ?_, hs.ok.fm, hs.ok.nd, hs.ok.ln, fun n a x e1 e2 => ?_⟩, ⟨hs.st.fr, hs.st.mu, fun a x q m => ?_, fun a q => ?_, hs.st.nf, hs.st.nm⟩, hs.len, fun j w ej => ?_, hs.dj, hs.an, hs.am, hs.pn⟩
  · have ne : a ≠ p := fun z => by subst z; rw [nF] at q; cases q
    rw [upd_ne ne]; exact hs.ok.sub a x q
  · have ne : a ≠ p := fun z => by subst z; exact nM (List.mem_of_getElem? e1)
    rw [upd_ne ne]; exact hs.ok.mr n a x e1 e2
  · have ne : a ≠ p := fun z => by subst z; rw [hb] at q; cases q
    rw [upd_ne ne]; exact hs.st.kp a x q m
  · by_cases q2 : a = p
    · subst q2; exact hb
    · rw [upd_ne q2] at q; exact hs.st.tr a q
  · have old := hs.sl j w ej
    have ff : isOwn w = true → ∀ a, σ[j]? = some (some (V.ref a)) → a ≠ p := fun ow a za ea => by subst ea; exact far j w ej ow za
    cases w with
    | no => trivial
    | pl d => exact old
    | bor ds => exact old
    | own ds =>
      obtain ⟨a, vs, e1, h, r1, n, m, b⟩ := old
      have ne := ff rfl a (hs.addr ej e1)
      exact ⟨a, vs, e1, (by rw [upd_ne ne]; exact h), r1, n, m, b⟩
    | od ks ds =>
      obtain ⟨a, e1, n, m, b, h⟩ := old
      have ne := ff rfl a (hs.addr ej e1)
      exact ⟨a, e1, n, m, b, (by rw [upd_ne ne]; exact h)⟩
    | oin c ds =>
      obtain ⟨a, dx, fs, e1, h, n, m, b⟩ := old
      have ne := ff rfl a (hs.addr ej e1)
      exact ⟨a, dx, fs, e1, (by rw [upd_ne ne]; exact h), n, m, b⟩
theorem Stp.upd {p : Addr} {u : HO} (t : Stp F μ H F' μ' H') (hn : H p = none) : Stp F μ H F' μ' (L2.upd H' p u) :=
  ⟨t.fr, t.mu, fun a x e m => by rw [upd_ne (ne_of_none e hn)]; exact t.kp a x e m, fun a e => by
    by_cases q : a = p
    · subst q; exact hn
    · rw [upd_ne q] at e; exact t.tr a e, t.nf, t.nm⟩
end
structure CS (K : PySem.W.Frag) (B : Bs) (F1 : Hp) (μ1 : List Addr) (H1 : Hp) (D : Addr) (δ : Evm) (σ : L2.St) (F : Hp) (μ : List Addr) (S : Ms) (H : Hp) (vs : List V) (ds : List Gt.D) : Prop where
  st : StR K B F μ S δ σ H
  go : Stp F1 μ1 H1 F μ H
  hd : H D = some (.lst vs)
  rp : RpA K F μ vs ds
  nF : F D = none
  nM : D ∉ μ
section
variable {X : Cx} {W : WX} {elt iter tg : Expr} {ifs : List Expr} {scope : Scope} {own : List (Str × Nat)} {fi : Fi} {t : Ft} {fe : Fe} {g : Tg} {pos : Pos}
theorem comp_of {K : PySem.W.Frag} {vs : List Nat} (hv : vs = slotsT g) {σ : L2.St} {H : Hp} {Q : VK} (q : wE K W (eComp g fi t fe) σ H Q) : tLc (wI K W (some vs) fi) (gTg K g) (wT K W0 t) (wE K W0 fe) vs σ H Q := by
  subst hv
  obtain ⟨B, F, μ, S, δ, hs, ho⟩ := q
  refine ⟨B, F, μ, S, δ, hs, ?_⟩
  have ho2 : OE K W F μ H σ δ Q ((fi δ S).bind fun xs S => if xs.length ≤ cap then (compL g t fe (wipeD δ (slotsT g)) xs S).bind fun ys S => .ok (.own ys) S else .st) := ho
  cases e : fi δ S with
  | st => rw [e] at ho2; exact ho2
  | ex x S1 => rw [e] at ho2; exact ho2
  | ok xs S1 =>
    rw [e, bind_ok] at ho2
    intro F1 μ1 H1 J G t1 o1 wk kp D0 hD
    have hcap : xs.length ≤ cap := by
      by_cases h : xs.length ≤ cap
      · exact h
      · rw [if_neg h] at ho2; exact ho2.elim
    rw [if_pos hcap] at ho2
    have h1 := hs.go t1 o1
    have hw := h1.wipe (slotsT g)
    have hDb : B.H D0 = none := h1.st.tr _ hD
    have far : ∀ (j : Nat) (w : Sl), (wipeD δ (slotsT g))[j]? = some w → isOwn w = true → (L2.wipe σ (slotsT g))[j]? ≠ some (some (V.ref D0)) := fun j w ej ow z => (hw.own_at ej ow z).1 hD
    obtain ⟨nF1, nM1⟩ := o1.free hD
    refine ⟨fun i m H => m = xs.length - i ∧ i ≤ xs.length ∧ ∃ F2 μ2 S2 vs ds, CS K B F1 μ1 H1 D0 (wipeD δ (slotsT g)) (L2.wipe σ (slotsT g)) F2 μ2 S2 H vs ds ∧ ds.length ≤ i ∧
        OE K W F1 μ1 H1 σ δ Q ((compL g t fe (wipeD δ (slotsT g)) (xs.drop i) S2).bind fun ys S => .ok (.own (ds ++ ys)) S), ⟨_, rfl, Nat.zero_le _, F1, μ1, S1, [], [], ⟨hw.tmp hDb nF1 nM1 far, Stp.upd (.refl _ _ _) hD, upd_same, .nil, nF1, nM1⟩, Nat.le_refl _, ?_⟩, ?_⟩
    · rw [List.drop_zero]
      exact OE.go t1 ho2
    rintro i m H2 ⟨rfl, hi, F2, μ2, S2, vs, ds, c2, hlen, o2⟩
    have gd : G F2 μ2 H2 := kp _ _ F2 μ2 S2 _ _ H2 c2.st.re c2.go.fr c2.go.mu fun j hj => ⟨by rw [wipe_get, if_neg hj], wipeD_get _ _ _ hj⟩
    by_cases hlt : i < xs.length
    · have hd : xs.drop i = xs[i] :: xs.drop (i + 1) := List.drop_eq_getElem_cons hlt
      rw [hd] at o2
      have hx : xs[i]? = some xs[i] := List.getElem?_eq_getElem hlt
      obtain ⟨hgo, hy⟩ := wk.go c2.st.ok gd hx
      refine .inr ⟨hgo, fun H' => ∃ F3 μ3 S3 vs ds, CS K B F1 μ1 H1 D0 (wipeD δ (slotsT g)) (L2.wipe σ (slotsT g)) F3 μ3 S3 H' vs ds ∧ ds.length ≤ i + 1 ∧
        OE K W F1 μ1 H1 σ δ Q ((compL g t fe (wipeD δ (slotsT g)) (xs.drop (i + 1)) S3).bind fun ys S => .ok (.own (ds ++ ys)) S), fun H' n => ⟨xs.length - (i + 1), by omega, rfl, hlt, n⟩, fun x H' y => ?_⟩
      obtain ⟨F3, t3, o3, r3⟩ := hy x H' y
      have h3 := c2.st.go t3 o3
      simp only [compL] at o2
      cases e4 : setT g xs[i] (wipeD δ (slotsT g)) with
      | none => rw [e4] at o2; exact (show False from o2).elim
      | some δ4 =>
        rw [e4] at o2
        dsimp only at o2
        refine gTg_of h3 r3 e4 fun σ4 h4 ag hl4 => ⟨?_, ?_⟩
        · rw [wipe_same hl4 fun j hj => (ag j hj).1, wipe_idem]
        have back : ∀ {F5 μ5 S5 H5}, Stp F3 μ2 H' F5 μ5 H5 → Ok K F5 μ5 S5 H5 → CS K B F1 μ1 H1 D0 (wipeD δ (slotsT g)) (L2.wipe σ (slotsT g)) F5 μ5 S5 H5 vs ds := fun {F5 μ5 S5 H5} t5 o5 => by
          have tt := t3.trans t5
          exact ⟨c2.st.go tt o5, c2.go.trans tt, tt.kp _ _ c2.hd c2.nM, c2.rp.mono tt.fr tt.mu, tt.noF c2.hd c2.nF, tt.noM c2.hd c2.nM⟩
        refine ⟨B, F3, μ2, S2, δ4, h4, ?_⟩
        cases e5 : t δ4 S2 with
        | st => rw [e5] at o2; exact (show False from o2).elim
        | ex x S5 => rw [e5] at o2; exact (show False from o2).elim
        | ok b S5 =>
          rw [e5, cut_ok, bind_ok] at o2
          intro F5 μ5 H5 t5 o5
          cases b with
          | false =>
            rw [if_neg (by decide)] at o2 ⊢
            exact ⟨F5, μ5, S5, vs, ds, back t5 o5, Nat.le_succ_of_le hlen, o2⟩
          | true =>
            rw [if_pos rfl] at o2 ⊢
            have h5 := h4.go t5 o5
            refine ⟨B, F5, μ5, S5, δ4, h5, ?_⟩
            cases e6 : fe δ4 S5 with
            | st => rw [e6] at o2; exact (show False from o2).elim
            | ex x S6 => rw [e6] at o2; exact (show False from o2).elim
            | ok a S6 =>
              rw [e6, cut_ok, bind_ok] at o2
              have fin : ∀ (y : Gt.D) (F6 : Hp) (μ6 : List Addr) (H6 : Hp) (v : V), toP a = some y → Stp F5 μ5 H5 F6 μ6 H6 → Ok K F6 μ6 S6 H6 → Rp K F6 μ6 v y → ∃ acc, H6 D0 = some (.lst acc) ∧ acc.length < sizeLine ∧ ∃ F3 μ3 S3 vs ds, CS K B F1 μ1 H1 D0 (wipeD δ (slotsT g)) (L2.wipe σ (slotsT g)) F3 μ3 S3 (L2.upd H6 D0 (.lst (acc ++ [v]))) vs ds ∧ ds.length ≤ i + 1 ∧
                  OE K W F1 μ1 H1 σ δ Q ((compL g t fe (wipeD δ (slotsT g)) (xs.drop (i + 1)) S3).bind fun ys S => .ok (.own (ds ++ ys)) S) := fun y F6 μ6 H6 v ey t6 o6 r6 => by
                have c6 := back (t5.trans t6) o6
                rw [ey] at o2
                have hb1 : ds.length < cap := by omega
                refine ⟨vs, c6.hd, by rw [c6.rp.len]; exact cap_lt hb1, F6, μ6, S6, vs ++ [v], ds ++ [y], ⟨c6.st.tmp hDb c6.nF c6.nM far, Stp.upd c6.go hD, upd_same, c6.rp.app (.cons r6 .nil), c6.nF, c6.nM⟩, by rw [List.length_append]; simp only [List.length_cons, List.length_nil]; omega, ?_⟩
                have e7 : ((compL g t fe (wipeD δ (slotsT g)) (xs.drop (i + 1)) S6).bind fun ys S => Rs.ok (Sl.own ((ds ++ [y]) ++ ys)) S) = ((compL g t fe (wipeD δ (slotsT g)) (xs.drop (i + 1)) S6).bind fun ys S => Rs.ok (y :: ys) S).bind fun ys S => Rs.ok (Sl.own (ds ++ ys)) S := by
                  rw [bind_bind]
                  congr 1
                  funext ys S
                  rw [bind_ok, List.append_assoc]
                  rfl
                rw [e7]
                exact o2
              cases a with
              | no => exact (show False from o2).elim
              | oin _ _ => exact (show False from o2).elim
              | bor _ => exact (show False from o2).elim
              | pl d => exact fun F6 μ6 H6 v t6 o6 r6 => fin d F6 μ6 H6 v rfl t6 o6 r6
              | own zs =>
                rintro F6 μ6 H6 v t6 o6 ⟨p, ws, rfl, h, r, nF, nM, hn⟩
                obtain ⟨t7, o7⟩ := freeze t6 o6 h hn nF nM
                exact fin (.lst zs) _ μ6 H6 _ rfl t7 o7 (.lst upd_same (r.mono (Sub.new nF) (.refl _)))
              | od ks zs =>
                rintro F6 μ6 H6 v t6 o6 ⟨p, rfl, nF, nM, hn, h⟩
                rcases h with ⟨kvs, h, rfl, r⟩ | ⟨kvs, h, rfl, r⟩
                · obtain ⟨t7, o7⟩ := freeze t6 o6 h hn nF nM
                  exact fin (.dct _ zs) _ μ6 H6 _ rfl t7 o7 (.dctK upd_same (r.mono (Sub.new nF) (.refl _)))
                · obtain ⟨t7, o7⟩ := freeze t6 o6 h hn nF nM
                  exact fin (.dct _ zs) _ μ6 H6 _ rfl t7 o7 (.dctT upd_same (r.mono (Sub.new nF) (.refl _)))
    · have ei : i = xs.length := by omega
      refine .inl ⟨wk.stop c2.st.ok gd (by omega), ?_⟩
      rw [ei, List.drop_length] at o2
      simp only [compL, bind_ok, List.append_nil] at o2
      exact o2 F2 μ2 H2 (.ref D0) c2.go c2.st.ok ⟨D0, vs, rfl, c2.hd, c2.rp, c2.nF, c2.nM, hD⟩
theorem se_comp (hc : X.calm = true) (hN : X.N.Nodup) (hi : SI X W (some (own.map (·.2))) tg iter fi) (ok : BlkOk X.N X.env.scope scope own) (hv : own.map (·.2) = slotsT g)
    (hg : ∀ (s : Shared) (H : Hp) (C : Addr) (cl : List (Str × Addr)) (fp : List Addr), PG (X.blk s H scope (compEnvC scope cl C X.env) fp) tg (gTg X.K g)) (ht : ∀ (s : Shared) (H : Hp) (C : Addr) (cl : List (Str × Addr)) (fp : List Addr), PTs (X.blk s H scope (compEnvC scope cl C X.env) fp) ifs (wT X.K W0 t))
    (he : ∀ (s : Shared) (H : Hp) (C : Addr) (cl : List (Str × Addr)) (fp : List Addr), SE (X.blk s H scope (compEnvC scope cl C X.env) fp) W0 elt fe) (hs : ∀ x, foldedSetIterable iter X.env x = pure x := by intro _; rfl) :
    SE X W (.ListComp elt [⟨tg, iter, ifs, 0⟩] scope pos) (eComp g fi t fe) := PE.imp (pe_lc hc hN hi ok hg ht he hs) fun _ _ _ => comp_of hv
theorem pts_yes {K : PySem.W.Frag} : PTs X [] (wT K W0 tYes') := ⟨fun pins s σ H Q I h => pts_nil.run pins s σ H Q I (by
  obtain ⟨B, F, μ, S, δ, hs, ho⟩ := h
  exact ho F μ H (.refl _ _ _) hs.ok)⟩
theorem ss_lcAsg {i : Nat} {y : Str} {py spos : Pos} (h : PS X (.Assign [.Name y py] (.ListComp elt [⟨tg, iter, ifs, 0⟩] scope pos) spos) (tAsg (tLc (wI X.K W (some (own.map (·.2))) fi) (gTg X.K g) (wT X.K W0 t) (wE X.K W0 fe) (own.map (·.2))) (gName i))) (hv : own.map (·.2) = slotsT g) :
    SS X W (.Assign [.Name y py] (.ListComp elt [⟨tg, iter, ifs, 0⟩] scope pos) spos) (sAsg i (eComp g fi t fe)) := PS.imp h fun D σ H q => comp_of hv (asg_of q)
theorem ss_lcOwn {i : Nat} {y : Str} {py spos : Pos} (h : PS X (.Assign [.Name y py] (.ListComp elt [⟨tg, iter, ifs, 0⟩] scope pos) spos) (tAsg (tLc (wI X.K W (some (own.map (·.2))) fi) (gTg X.K g) (wT X.K W0 t) (wE X.K W0 fe) (own.map (·.2))) (gName i))) (hv : own.map (·.2) = slotsT g) :
    SS X W (.Assign [.Name y py] (.ListComp elt [⟨tg, iter, ifs, 0⟩] scope pos) spos) (sOwn i (eComp g fi t fe)) := PS.imp h fun D σ H q => comp_of hv (own_of q)
end
end Gt
set_option Elab.async false
set_option linter.all false
set_option maxRecDepth 100000
namespace Gt
open PySem PySem.Spec PyProof.Rows L2
def ixS : D → D → Option Sl
  | .lst xs, .int i => (atI xs i).map .pl
  | .tup xs, .int i => (atI xs i).map .pl
  | .str z, .int i => if z.length ≤ cap then (atI z.cps.toList i).map fun c => .pl (.str ⟨#[c]⟩) else none
  | _, _ => none
def cutD (xs : List D) (lo hi : Option Int) : List D := (xs.drop (HT.sIx xs.length 0 lo)).take (HT.sIx xs.length xs.length hi - HT.sIx xs.length 0 lo)
def slS (x : D) (lo hi : Option Int) : Option Sl := match x with
  | .lst xs => some (.own (cutD xs lo hi))
  | .scr ns => some (.own (cutD (ns.map .int) lo hi))
  | .tup xs => some (.pl (.tup (cutD xs lo hi)))
  | .str z => if z.length ≤ cap then some (.pl (.str (cutS z lo hi))) else none
  | _ => none
abbrev Fo := Evm → Ms → Rs (Option Int)
def oNone : Fo := fun _ S => .ok none S
def oSome (f : Fe) : Fo := fun δ S => (rd f δ S).bind fun d S => match d with
  | .int i => .ok (some i) S
  | _ => .st
def eSl (f : Fe) (lo hi : Fo) : Fe := fun δ S => (rd f δ S).bind fun d S => (lo δ S).bind fun l S => (hi δ S).bind fun u S => lift (slS d l u) S
section
variable {K : PySem.W.Frag} {W : WX} {B : Bs} {F F' H H' : Hp} {μ μ' : List Addr} {S S' : Ms} {δ : Evm} {σ : L2.St} {Q : VK}
theorem RpA.atI {vs : List V} {ds : List D} {i : Int} {d : D} (r : RpA K F μ vs ds) (h : L2.atI ds i = some d) : ∃ v, L2.atI vs i = some v ∧ Rp K F μ v d := by
  unfold L2.atI at h ⊢
  rw [r.len]
  cases q : ixN ds.length i with
  | none => rw [q] at h; cases h
  | some j =>
    rw [q] at h
    exact r.getD h
theorem RpA.cut {vs : List V} {ds : List D} {lo hi : Option Int} (r : RpA K F μ vs ds) : RpA K F μ (cutV vs lo hi) (cutD ds lo hi) := by
  unfold cutV cutD
  rw [r.len]
  exact (r.drop _).take _
abbrev rIxAny (K : PySem.W.Frag) : R2 := fun x y H Q => rIxL K x y H Q ∨ (rIxT K x y H Q ∨ rIxS x y H Q)
theorem ix_any {X : Cx} : IxR X (rIxAny X.K) := IxR.or ix_list (IxR.or ix_tup ix_str)
theorem g_ix : G2 K (rIxAny K) ixS := by
  intro F μ S H x y dx dy s Q o rx ry e k
  cases dx <;> cases dy <;> simp only [ixS, reduceCtorEq] at e
  case lst.int xs i =>
    obtain ⟨p, vs, rfl, hp, r⟩ := rx.lst o.sub
    have hy := ry.int; subst hy
    cases q : L2.atI xs i with
    | none => rw [q] at e; cases e
    | some d =>
      rw [q] at e
      cases e
      obtain ⟨v, hv, rv⟩ := r.atI q
      exact .inl ⟨p, vs, i, v, rfl, rfl, SqL.of hp, hv, k F μ H v (.refl _ _ _) o rv⟩
  case tup.int xs i =>
    obtain ⟨p, vs, rfl, hp, r⟩ := rx.tup o.sub
    have hy := ry.int; subst hy
    cases q : L2.atI xs i with
    | none => rw [q] at e; cases e
    | some d =>
      rw [q] at e
      cases e
      obtain ⟨v, hv, rv⟩ := r.atI q
      exact .inr (.inl ⟨p, vs, i, v, rfl, rfl, hp, hv, k F μ H v (.refl _ _ _) o rv⟩)
  case str.int z i =>
    have hx := rx.str; subst hx
    have hy := ry.int; subst hy
    split at e
    · rename_i c
      cases q : L2.atI z.cps.toList i with
      | none => rw [q] at e; cases e
      | some d =>
        rw [q] at e
        cases e
        exact .inr (.inr ⟨z, i, d, rfl, rfl, cap_le c, q, end_pl o (fun _ _ => .str _) k⟩)
    · cases e
abbrev rSlAny (K : PySem.W.Frag) : V → Option Int → Option Int → Hp → VK → Prop := fun x lo hi H Q => rSlL K x lo hi H Q ∨ (rSlA K x lo hi H Q ∨ rSlS x lo hi H Q)
theorem sl_any {X : Cx} : SlR X (rSlAny X.K) := SlR.or sl_list (SlR.or sl_tupA sl_str)
theorem cutD_all {xs : List D} {lo hi : Option Int} (h : HT.sIx xs.length 0 lo = 0 ∧ HT.sIx xs.length xs.length hi = xs.length) : cutD xs lo hi = xs := by
  unfold cutD
  rw [h.1, h.2, List.drop_zero, Nat.sub_zero, List.take_length]
theorem RpA.ints : ∀ (ns : List Int), RpA K F μ (ns.map V.int) (ns.map D.int)
  | [] => .nil
  | n :: ns => .cons (.int n) (RpA.ints ns)
theorem g_sl {x : V} {d : D} {lo hi : Option Int} {s : Sl} (o : Ok K F μ S H) (rx : RR K F μ H x d) (e : slS d lo hi = some s) (k : ∀ F' μ' H' v, Stp F μ H F' μ' H' → Ok K F' μ' S H' → VR K H [] [] F' μ' H' v s → Q v H') : rSlAny K x lo hi H Q := by
  cases d <;> simp only [slS, reduceCtorEq, Option.some.injEq] at e
  case lst xs =>
    subst e
    obtain ⟨p, vs, rfl, hp, r⟩ := rx.lst o.sub
    exact .inl ⟨p, vs, rfl, SqL.of hp, fun q hq => end_own o r.cut hq k⟩
  case scr ns =>
    subst e
    rcases rx with h | ⟨_, _, _, e1, _⟩
    · cases h with
      | scr h => exact .inl ⟨_, _, rfl, sub_l o.sub h, fun q hq => end_own o (RpA.ints ns).cut hq k⟩
    · cases e1
  case tup xs =>
    subst e
    obtain ⟨p, vs, rfl, hp, r⟩ := rx.tup o.sub
    refine .inr (.inl ⟨p, vs, rfl, hp, fun h => ?_, fun _ q hq => end_tup o r.cut hq k⟩)
    have h2 : cutD xs lo hi = xs := cutD_all (by rw [← r.len]; exact h)
    rw [h2] at k
    rcases rx with h3 | ⟨_, _, _, e1, _⟩
    · exact k F μ H _ (.refl _ _ _) o h3
    · cases e1
  case str z =>
    have hx := rx.str; subst hx
    split at e
    · rename_i c
      cases e
      exact .inr (.inr ⟨z, rfl, cap_le c, end_pl o (fun _ _ => .str _) k⟩)
    · cases e
def OO (K : PySem.W.Frag) (W : WX) (F : Hp) (μ : List Addr) (H : Hp) (σ : L2.St) (Q : Option Int → Hp → Prop) : Rs (Option Int) → Prop
  | .ok b S' => ∀ F' μ' H', Stp F μ H F' μ' H' → Ok K F' μ' S' H' → Q b H'
  | .ex x S' => XW K W F μ H σ x S'
  | .st => False
def wO (K : PySem.W.Frag) (W : WX) (f : Fo) : TO := fun σ H Q => ∃ B F μ S δ, StR K B F μ S δ σ H ∧ OO K W F μ H σ Q (f δ S)
theorem OO.go (t : Stp F μ H F' μ' H') {Q : Option Int → Hp → Prop} : ∀ {r : Rs (Option Int)}, OO K W F μ H σ Q r → OO K W F' μ' H' σ Q r
  | .ok _ _, h => fun F1 μ1 H1 t1 o1 => h F1 μ1 H1 (t.trans t1) o1
  | .ex _ _, h => fun F1 μ1 H1 d t1 o1 r => h F1 μ1 H1 d (t.trans t1) o1 r
  | .st, h => h
theorem wO_bind {α : Type} {f : Fo} {k : Option Int → Ms → Rs α} {Q : Option Int → Hp → Prop} {G : Hp → List Addr → Hp → Rs α → Prop} (hs : StR K B F μ S δ σ H)
    (gx : ∀ x S1, G F μ H (.ex x S1) → XW K W F μ H σ x S1) (gs : ¬ G F μ H .st) (gg : ∀ F1 μ1 H1 r, Stp F μ H F1 μ1 H1 → G F μ H r → G F1 μ1 H1 r) (ho : G F μ H ((f δ S).bind k))
    (hk : ∀ b S1 F1 μ1 H1, Stp F μ H F1 μ1 H1 → StR K B F1 μ1 S1 δ σ H1 → G F1 μ1 H1 (k b S1) → Q b H1) : wO K W f σ H Q := by
  refine ⟨B, F, μ, S, δ, hs, ?_⟩
  cases e : f δ S with
  | st => rw [e] at ho; exact gs ho
  | ex x S1 => rw [e] at ho; exact gx x S1 ho
  | ok b S1 =>
    rw [e] at ho
    exact fun F1 μ1 H1 t o => hk b S1 F1 μ1 H1 t (hs.go t o) (gg _ _ _ _ t ho)
end
section
variable {X : Cx} {W : WX} {a b c e : Expr} {fa fb fc f : Fe} {pos p2 : Pos} {lo hi : Option Expr} {fl fh : Fo}
theorem se_ix (ha : SE X W a fa) (hb : SE X W b fb) (hs : PlainIx b) : SE X W (.Subscript a b pos) (eB ixS fa fb) := PE.imp (pe_ix ix_any ha hb hs) fun _ _ _ => tOp_of g_ix
theorem so_none : PO X none (wO X.K W oNone) := ⟨fun pins s σ H Q I h => po_none.run pins s σ H Q I (by
  obtain ⟨B, F, μ, S, δ, hs, ho⟩ := h
  exact ho F μ H (.refl _ _ _) hs.ok)⟩
theorem so_some (h : SE X W e f) : PO X (some e) (wO X.K W (oSome f)) := ⟨fun pins s σ H Q I hw => (po_some h).run pins s σ H Q I (by
  obtain ⟨B, F, μ, S, δ, hs, ho⟩ := hw
  refine wE_rdG (G := fun F μ H r => OO X.K W F μ H σ Q r) hs (fun _ _ h => h) (fun h => h) (fun _ _ _ _ t h => OO.go t h) ho fun d S1 F1 μ1 H1 v t1 h1 v1 o1 => ?_
  cases d <;> simp only at o1
  case int i =>
    have e := (v1.rr h1).int; subst e
    exact ⟨i, rfl, o1 F1 μ1 H1 (.refl _ _ _) h1.ok⟩
  all_goals exact o1.elim)⟩
theorem se_sl (he : SE X W e f) (hl : PO X lo (wO X.K W fl)) (hu : PO X hi (wO X.K W fh)) : SE X W (.Subscript e (.Slice lo hi none p2) pos) (eSl f fl fh) := PE.imp (pe_slice sl_any he hl hu) fun σ H Q ⟨B, F, μ, S, δ, hs, ho⟩ => by
  refine wE_rd hs ho fun d S1 F1 μ1 H1 v t1 h1 v1 o1 => ?_
  refine wO_bind (G := fun F μ H r => OE X.K W F μ H σ δ Q r) h1 (fun _ _ h => h) (fun h => h) (fun _ _ _ _ t h => OE.go t h) o1 fun l S2 F2 μ2 H2 t2 h2 o2 => ?_
  refine wO_bind (G := fun F μ H r => OE X.K W F μ H σ δ Q r) h2 (fun _ _ h => h) (fun h => h) (fun _ _ _ _ t h => OE.go t h) o2 fun u S3 F3 μ3 H3 t3 h3 o3 => ?_
  cases q : slS d l u with
  | none => rw [q] at o3; exact o3.elim
  | some s =>
    rw [q] at o3
    exact g_sl h3.ok ((v1.go (t2.trans t3)).rr h3) q fun F' μ' H' v t o r => o3 F' μ' H' v t o r.of_nil
def sUnp (g : Tg) (f : Fe) : Fs := fun δ S => (f δ S).bind fun a S => match toP a with
  | some d => (match setT g d δ with
    | some δ' => .ok (.nx δ') S
    | none => .st)
  | none => .st
theorem ss_unp {g : Tg} {tg : Expr} (he : SE X W e f) (hg : PG X tg (gTg X.K g)) (hs : swapsWithSole [tg] e pos.line X.env = pure false := by rfl) (hw : swappedStores [tg] e X.env = pure none := by rfl) (h1 : (assignEach [tg] X.env).map (·.2) = [assign tg X.env] := by rfl) : SS X W (.Assign [tg] e pos) (sUnp g f) :=
  PS.imp (ps_asg he hg hs hw h1) fun D σ H ⟨B, F, μ, S, δ, hs, ho⟩ => by
    refine wE_P hs ho fun d S1 F1 μ1 H1 v t h1 r o1 => ?_
    cases q : setT g d δ with
    | none => rw [q] at o1; exact o1.elim
    | some δ' =>
      rw [q] at o1
      exact gTg_of h1 r q fun σ' h' _ _ => o1 F1 μ1 σ' H1 h'
end
def tyN : D → Option String
  | .non => some "NoneType"
  | .bl _ => some "bool"
  | .int _ => some "int"
  | .str _ => some "str"
  | .lst _ => some "list"
  | .tup _ => some "tuple"
  | .dct _ _ => some "dict"
  | _ => none
def subT (a b : String) : Bool := a == b || (a == "bool" && b == "int")
def isiD (ts : List String) (d : D) : Option Bool := (tyN d).map fun a => ts.any (subT a)
def eIsi (ts : List String) (f : Fe) : Fe := fun δ S => (rd f δ S).bind fun d S => lift ((isiD ts d).map fun b => .pl (.bl b)) S
section
variable {K : PySem.W.Frag} {W : WX} {F H : Hp} {μ : List Addr} {S : Ms}
theorem tyx_of {v : V} {d : D} {a : String} (o : Ok K F μ S H) (r : RR K F μ H v d) (e : tyN d = some a) : TyX K H v (.type a) := by
  cases d <;> simp only [tyN, reduceCtorEq, Option.some.injEq] at e <;> subst e
  case non => have := r.non; subst this; exact .base .non
  case bl b => have := r.bl; subst this; exact .base (.bl b)
  case int b => have := r.int; subst this; exact .base (.int b)
  case str b => have := r.str; subst this; exact .base (.str b)
  case lst xs => obtain ⟨p, vs, rfl, h, _⟩ := r.lst o.sub; exact .base (.lst h)
  case tup xs =>
    obtain ⟨p, vs, rfl, h, _⟩ := r.tup o.sub
    rcases h with (h | ⟨o, h⟩) | ⟨o, _, _, h, c, _⟩
    · exact .base (.tup h)
    · exact .fTuple h
    · exact .kTuple h c
  case dct ks vs =>
    rcases r with h | ⟨_, _, _, e1, _⟩
    · cases h with
      | dctK h _ => exact .base (.dK (o.sub _ _ h))
      | dctT h _ => exact .base (.dT (o.sub _ _ h))
    · cases e1
abbrev tyNames : List String := ["NoneType", "bool", "int", "str", "list", "tuple", "dict"]
abbrev isNames : List String := ["bool", "int", "str", "list", "tuple", "dict"]
theorem kitB_tab : (tyNames.all fun a => isNames.all fun b => kitB a b == some (subT a b)) = true := by decide +kernel
theorem kitB_at {a b : String} (ha : a ∈ tyNames) (hb : b ∈ isNames) : PySem.W.kitOne K (.type a) (.type b) = some (subT a b) := by
  have h := kitB_tab
  rw [List.all_eq_true] at h
  have h2 := h a ha
  rw [List.all_eq_true] at h2
  exact kit_ty (beq_iff_eq.mp (h2 b hb))
theorem tyN_in {d : D} {a : String} (e : tyN d = some a) : a ∈ tyNames := by
  cases d <;> simp only [tyN, reduceCtorEq, Option.some.injEq] at e <;> subst e <;> decide
theorem kitAny_of {a : String} (ha : a ∈ tyNames) : ∀ {ts : List String}, (∀ t ∈ ts, t ∈ isNames) → PySem.W.kitAny K (.type a) (ts.map .type) = some (ts.any (subT a))
  | [], _ => rfl
  | t :: ts, h => by
    rw [List.map_cons, List.any_cons]
    refine kitAny_cons (kitB_at ha (h t List.mem_cons_self)) (fun e => ?_) fun e => by rw [e]; rfl
    rw [e, Bool.false_or]
    exact kitAny_of ha fun x hx => h x (List.mem_cons_of_mem _ hx)
end
section
variable {X : Cx} {W : WX} {e : Expr} {f : Fe} {pos p p1 p2 p3 p4 : Pos}
theorem se_isi {T : Str} {t : String} (he : SE X W e f) (hx : Gl X "isinstance") (hm : X.mg "isinstance" = none) (hT : PE X (.Name T p1) (tC (.ty t))) (ht : t ∈ isNames)
    (hs : starEach [e, .Name T p1] X.env = (false, eval e X.env) :: starEach [.Name T p1] X.env := by rfl) (hs2 : starEach [.Name T p1] X.env = (false, eval (.Name T p1) X.env) :: starEach [] X.env := by rfl) (hpl : (backTo pos (starEach [.Name T p1] X.env)).any (·.1) = false := by rfl) :
    SE X W (.Call (.Name "isinstance" p) [e, .Name T p1] [] pos) (eIsi [t] f) :=
  PE.imp (pe_callB call_isi hx hm (by decide +kernel) (pa_cons he (pa_cons hT pa_nil hs2) hs) (by decide) (by decide) hs hpl) fun σ H Q ⟨B, F, μ, S, δ, hs, ho⟩ => by
    refine wE_rd hs ho fun d S1 F1 μ1 H1 v t1 h1 v1 o1 => ?_
    unfold isiD at o1
    cases q : tyN d with
    | none => rw [q] at o1; exact o1.elim
    | some a =>
      rw [q] at o1
      refine ⟨v, .ty t, .type a, .type t, subT a t, rfl, .ty t, tyx_of h1.ok (v1.rr h1) q, kitB_at (tyN_in q) ht, ?_⟩
      have : [t].any (subT a) = subT a t := by simp
      rw [← this]
      exact o1.same h1.ok (.bl _)
theorem se_isiT {T U : Str} {t u : String} {j : Nat} (he : SE X W e f) (hx : Gl X "isinstance") (hm : X.mg "isinstance" = none) (hT : PE X (.Name T p1) (tC (.ty t))) (hU : PE X (.Name U p3) (tC (.ty u))) (ht : t ∈ isNames) (hu : u ∈ isNames)
    (ha : PA X [e, .Tuple [.Name T p1, .Name U p3] j p4] (tCons (wE X.K W f) (tCons (tTup (tCons (tC (.ty t)) (tCons (tC (.ty u)) tNil))) tNil)))
    (hs : starEach [e, .Tuple [.Name T p1, .Name U p3] j p4] X.env = (false, eval e X.env) :: starEach [.Tuple [.Name T p1, .Name U p3] j p4] X.env := by rfl) (hpl : (backTo pos (starEach [.Tuple [.Name T p1, .Name U p3] j p4] X.env)).any (·.1) = false := by rfl) :
    SE X W (.Call (.Name "isinstance" p) [e, .Tuple [.Name T p1, .Name U p3] j p4] [] pos) (eIsi [t, u] f) :=
  PE.imp (pe_callB call_isiT hx hm (by decide +kernel) ha (by decide) (by decide) hs hpl) fun σ H Q ⟨B, F, μ, S, δ, hs, ho⟩ => by
    refine wE_rd hs ho fun d S1 F1 μ1 H1 v t1 h1 v1 o1 => ⟨by show 2 ≤ sizeLine; decide, fun tp htp => ?_⟩
    unfold isiD at o1
    cases q : tyN d with
    | none => rw [q] at o1; exact o1.elim
    | some a =>
      rw [q] at o1
      have t2 := Stp.newF h1.ok (u := .tup [.ty t, .ty u]) htp
      have o2 := h1.ok.newF (u := .tup [.ty t, .ty u]) htp
      have h2 := h1.go t2 o2
      refine ⟨v, tp, [.ty t, .ty u], .type a, [.type t, .type u], [t, u].any (subT a), rfl, upd_same, .cons (.ty t) (.cons (.ty u) .nil), tyx_of o2 ((v1.go t2).rr h2) q, kitAny_of (tyN_in q) (ts := [t, u]) (by intro x hx; rcases List.mem_cons.mp hx with z | z; exact z ▸ ht; rcases List.mem_cons.mp z with z | z; exact z ▸ hu; cases z), ?_⟩
      exact o1 _ _ _ _ t2 o2 (.bl _)
end
def lenS : List D → Option Sl
  | [.str x] => if x.length ≤ cap then some (.pl (.int x.length)) else none
  | [.lst xs] => some (.pl (.int xs.length))
  | [.tup xs] => some (.pl (.int xs.length))
  | [.scr xs] => some (.pl (.int xs.length))
  | _ => none
def blsD : List D → Option (List Bool)
  | [] => some []
  | .bl b :: r => (blsD r).map (b :: ·)
  | _ :: _ => none
def intsD : List D → Option (List Int)
  | [] => some []
  | .int b :: r => (intsD r).map (b :: ·)
  | _ :: _ => none
def allS : List D → Option Sl
  | [.lst xs] => (blsD xs).map fun bs => .pl (.bl (bs.all id))
  | _ => none
def anyS : List D → Option Sl
  | [.lst xs] => (blsD xs).map fun bs => .pl (.bl (bs.any id))
  | _ => none
def sumS : List D → Option Sl
  | [.lst xs] => (intsD xs).map fun ns => .pl (.int ns.sum)
  | _ => none
def listS : List D → Option Sl
  | [.lst xs] => some (.own xs)
  | [.tup xs] => some (.own xs)
  | _ => none
def tupS : List D → Option Sl
  | [.lst xs] => some (.pl (.tup xs))
  | [.tup xs] => some (.pl (.tup xs))
  | _ => none
def absS : List D → Option Sl
  | [.int i] => some (.pl (.int (if i < 0 then -i else i)))
  | _ => none
def intS : List D → Option Sl
  | [.int i] => some (.pl (.int i))
  | [.bl b] => some (.pl (.int (if b then 1 else 0)))
  | _ => none
def max2S : List D → Option Sl
  | [.int i, .int j] => some (.pl (.int (if j > i then j else i)))
  | _ => none
def min2S : List D → Option Sl
  | [.int i, .int j] => some (.pl (.int (if j < i then j else i)))
  | _ => none
def strS : List D → Option Sl
  | [.int i] => if i.natAbs < 2 ^ 1000 then some (.pl (.str (Str.ofString (toString i)))) else none
  | _ => none
section
variable {K : PySem.W.Frag} {F H : Hp} {μ : List Addr} {S : Ms}
theorem blsD_vs : ∀ {ds : List D} {bs : List Bool} {vs : List V}, blsD ds = some bs → RpA K F μ vs ds → vs = bs.map V.bl
  | _, _, _, e, .nil => by cases e; rfl
  | d :: ds, bs, _, e, .cons h r => by
    cases d <;> simp only [blsD, reduceCtorEq] at e
    case bl b =>
      cases q : blsD ds with
      | none => rw [q] at e; cases e
      | some cs =>
        rw [q] at e
        cases e
        cases h
        rw [blsD_vs q r]
        rfl
theorem intsD_vs : ∀ {ds : List D} {bs : List Int} {vs : List V}, intsD ds = some bs → RpA K F μ vs ds → vs = bs.map V.int
  | _, _, _, e, .nil => by cases e; rfl
  | d :: ds, bs, _, e, .cons h r => by
    cases d <;> simp only [intsD, reduceCtorEq] at e
    case int b =>
      cases q : intsD ds with
      | none => rw [q] at e; cases e
      | some cs =>
        rw [q] at e
        cases e
        cases h
        rw [intsD_vs q r]
        rfl
theorem rrs1 {vs : List V} {d : D} (r : RRs K F μ H vs [d]) : ∃ v, vs = [v] ∧ RR K F μ H v d := by
  cases r with
  | cons h t => cases t; exact ⟨_, rfl, h⟩
theorem rrs2 {vs : List V} {d d2 : D} (r : RRs K F μ H vs [d, d2]) : ∃ v v2, vs = [v, v2] ∧ RR K F μ H v d ∧ RR K F μ H v2 d2 := by
  cases r with
  | cons h t =>
    obtain ⟨v2, rfl, h2⟩ := rrs1 t
    exact ⟨_, _, rfl, h, h2⟩
theorem g_len : GC K (fun xs H Q => ∃ x n, xs = [x] ∧ LenV K x H n ∧ Q (.int n) H) lenS := by
  intro F μ S H vs ds s Q o r e k
  unfold lenS at e
  split at e
  · obtain ⟨v, rfl, r1⟩ := rrs1 r
    have := r1.str; subst this
    split at e
    · rename_i c; cases e
      exact ⟨_, _, rfl, ⟨cap_le c, rfl⟩, end_pl o (fun _ _ => .int _) k⟩
    · cases e
  · cases e
    obtain ⟨v, rfl, r1⟩ := rrs1 r
    obtain ⟨p, ws, rfl, h, rr⟩ := r1.lst o.sub
    exact ⟨_, _, rfl, .inl ⟨ws, SqL.of h, rr.len.symm⟩, end_pl o (fun _ _ => .int _) k⟩
  · cases e
    obtain ⟨v, rfl, r1⟩ := rrs1 r
    obtain ⟨p, ws, rfl, h, rr⟩ := r1.tup o.sub
    exact ⟨_, _, rfl, .inr ⟨ws, h, rr.len.symm⟩, end_pl o (fun _ _ => .int _) k⟩
  · cases e
    obtain ⟨v, rfl, r1⟩ := rrs1 r
    rcases r1 with h | ⟨_, _, _, e1, _⟩
    · cases h with
      | scr h => exact ⟨_, _, rfl, .inl ⟨_, sub_l o.sub h, by rw [List.length_map]⟩, end_pl o (fun _ _ => .int _) k⟩
    · cases e1
  · cases e
theorem g_all : GC K (rAll K) allS := by
  intro F μ S H vs ds s Q o r e k
  unfold allS at e
  split at e
  · rename_i xs
    cases q : blsD xs with
    | none => rw [q] at e; cases e
    | some bs =>
      rw [q] at e; cases e
      obtain ⟨v, rfl, r1⟩ := rrs1 r
      obtain ⟨p, ws, rfl, h, rr⟩ := r1.lst o.sub
      exact ⟨p, bs, rfl, by rw [← blsD_vs q rr]; exact SqL.of h, end_pl o (fun _ _ => .bl _) k⟩
  · cases e
theorem g_any : GC K (rAny K) anyS := by
  intro F μ S H vs ds s Q o r e k
  unfold anyS at e
  split at e
  · rename_i xs
    cases q : blsD xs with
    | none => rw [q] at e; cases e
    | some bs =>
      rw [q] at e; cases e
      obtain ⟨v, rfl, r1⟩ := rrs1 r
      obtain ⟨p, ws, rfl, h, rr⟩ := r1.lst o.sub
      exact ⟨p, bs, rfl, by rw [← blsD_vs q rr]; exact SqL.of h, end_pl o (fun _ _ => .bl _) k⟩
  · cases e
theorem g_sum : GC K (rSum K) sumS := by
  intro F μ S H vs ds s Q o r e k
  unfold sumS at e
  split at e
  · rename_i xs
    cases q : intsD xs with
    | none => rw [q] at e; cases e
    | some bs =>
      rw [q] at e; cases e
      obtain ⟨v, rfl, r1⟩ := rrs1 r
      obtain ⟨p, ws, rfl, h, rr⟩ := r1.lst o.sub
      exact ⟨p, bs, rfl, by rw [← intsD_vs q rr]; exact SqL.of h, end_pl o (fun _ _ => .int _) k⟩
  · cases e
theorem g_list : GC K (fun xs H Q => ∃ p ys, xs = [.ref p] ∧ (SqL K H p ys ∨ SqT K H p ys) ∧ ∀ l, H l = none → Q (.ref l) (upd H l (.lst ys))) listS := by
  intro F μ S H vs ds s Q o r e k
  unfold listS at e
  split at e
  · cases e
    obtain ⟨v, rfl, r1⟩ := rrs1 r
    obtain ⟨p, ws, rfl, h, rr⟩ := r1.lst o.sub
    exact ⟨p, ws, rfl, .inl (SqL.of h), fun l hl => end_own o rr hl k⟩
  · cases e
    obtain ⟨v, rfl, r1⟩ := rrs1 r
    obtain ⟨p, ws, rfl, h, rr⟩ := r1.tup o.sub
    exact ⟨p, ws, rfl, .inr h, fun l hl => end_own o rr hl k⟩
  · cases e
theorem g_tuple : GC K (fun xs H Q => ∃ p ys, xs = [.ref p] ∧ ((SqL K H p ys ∧ ∀ l, H l = none → Q (.ref l) (upd H l (.tup ys))) ∨ (SqT K H p ys ∧ Q (.ref p) H))) tupS := by
  intro F μ S H vs ds s Q o r e k
  unfold tupS at e
  split at e
  · cases e
    obtain ⟨v, rfl, r1⟩ := rrs1 r
    obtain ⟨p, ws, rfl, h, rr⟩ := r1.lst o.sub
    exact ⟨p, ws, rfl, .inl ⟨SqL.of h, fun l hl => end_tup o rr hl k⟩⟩
  · cases e
    obtain ⟨v, rfl, r1⟩ := rrs1 r
    obtain ⟨p, ws, rfl, h, rr⟩ := r1.tup o.sub
    refine ⟨p, ws, rfl, .inr ⟨h, ?_⟩⟩
    rcases r1 with h3 | ⟨_, _, _, e1, _⟩
    · exact k F μ H _ (.refl _ _ _) o h3
    · cases e1
  · cases e
theorem g_abs : GC K (fun xs H Q => ∃ i, xs = [.int i] ∧ Q (.int (if i < 0 then -i else i)) H) absS := by
  intro F μ S H vs ds s Q o r e k
  unfold absS at e
  split at e
  · cases e
    obtain ⟨v, rfl, r1⟩ := rrs1 r
    have := r1.int; subst this
    exact ⟨_, rfl, end_pl o (fun _ _ => .int _) k⟩
  · cases e
theorem g_int : GC K (fun xs H Q => (∃ i, xs = [.int i] ∧ Q (.int i) H) ∨ ∃ k, xs = [.bl k] ∧ Q (.int (if k then 1 else 0)) H) intS := by
  intro F μ S H vs ds s Q o r e k
  unfold intS at e
  split at e
  · cases e
    obtain ⟨v, rfl, r1⟩ := rrs1 r
    have := r1.int; subst this
    exact .inl ⟨_, rfl, end_pl o (fun _ _ => .int _) k⟩
  · cases e
    obtain ⟨v, rfl, r1⟩ := rrs1 r
    have := r1.bl; subst this
    exact .inr ⟨_, rfl, end_pl o (fun _ _ => .int _) k⟩
  · cases e
theorem g_max2 : GC K (fun xs H Q => ∃ i j, xs = [.int i, .int j] ∧ Q (.int (if j > i then j else i)) H) max2S := by
  intro F μ S H vs ds s Q o r e k
  unfold max2S at e
  split at e
  · cases e
    obtain ⟨v, v2, rfl, r1, r2⟩ := rrs2 r
    have := r1.int; subst this
    have := r2.int; subst this
    exact ⟨_, _, rfl, end_pl o (fun _ _ => .int _) k⟩
  · cases e
theorem g_min2 : GC K (fun xs H Q => ∃ i j, xs = [.int i, .int j] ∧ Q (.int (if j < i then j else i)) H) min2S := by
  intro F μ S H vs ds s Q o r e k
  unfold min2S at e
  split at e
  · cases e
    obtain ⟨v, v2, rfl, r1, r2⟩ := rrs2 r
    have := r1.int; subst this
    have := r2.int; subst this
    exact ⟨_, _, rfl, end_pl o (fun _ _ => .int _) k⟩
  · cases e
theorem g_str : GC K (fun xs H Q => ∃ i, xs = [.int i] ∧ i.natAbs.log2 < 1920 ∧ Q (.str (toString i)) H) strS := by
  intro F μ S H vs ds s Q o r e k
  unfold strS at e
  split at e
  · split at e
    · rename_i c
      cases e
      obtain ⟨v, rfl, r1⟩ := rrs1 r
      have := r1.int; subst this
      have h := PySem.Flt.log2_lt_of (by decide) c
      exact ⟨_, rfl, by omega, end_pl o (fun _ _ => .str _) k⟩
    · cases e
  · cases e
end
def sApp (i : Nat) (f : Fe) : Fs := fun δ S => match δ[i]? with
  | some (.own xs) => (f δ S).bind fun a S => (match toP a with
    | some d => if xs.length < cap then .ok (.nx (δ.set i (.own (xs ++ [d])))) S else .st
    | none => .st)
  | _ => .st
def sIns (i : Nat) (f1 f2 : Fe) : Fs := fun δ S => match δ[i]? with
  | some (.own xs) => (rd f1 δ S).bind fun k S => (match k with
    | .int n => (f2 δ S).bind fun a S => (match toP a with
      | some d => if xs.length < cap ∧ 0 ≤ n ∧ n ≤ 1000000000 then .ok (.nx (δ.set i (.own (xs.take n.toNat ++ [d] ++ xs.drop n.toNat)))) S else .st
      | none => .st)
    | _ => .st)
  | _ => .st
section
variable {X : Cx} {W : WX} {e : Expr} {f f1 f2 : Fe} {pos p p1 p2 p3 p4 : Pos}
theorem ss_app {i : Nat} {x : Str} (h : PS X (.Expr (.Call (.Attribute (.Name x p) "append" p1) [e] [] p2) pos) (tDrop (tBM X.K "list" rAppend (tVar i) (tCons (wE X.K W f) tNil)))) : SS X W (.Expr (.Call (.Attribute (.Name x p) "append" p1) [e] [] p2) pos) (sApp i f) := PS.imp h fun D σ H ⟨B, F, μ, S, δ, hs, ho⟩ => by
  unfold sApp at ho
  split at ho
  · rename_i xs e1
    obtain ⟨a, vs, z, hp, r, nF, nM, hb⟩ := hs.sl i _ e1
    have za := hs.addr e1 z
    refine ⟨_, za, .inl ⟨rfl, _, SqL.of hp⟩, ?_⟩
    refine wE_P hs ho fun d S1 F1 μ1 H1 v t h1 r1 o1 => ?_
    by_cases c : xs.length < cap
    · rw [if_pos c] at o1
      obtain ⟨a', vs', z', hp', r', nF', nM', hb'⟩ := h1.sl i _ e1
      rw [z] at z'
      cases z'
      exact ⟨a, vs', v, rfl, rfl, hp', by rw [r'.len]; exact cap_lt c, o1 F1 μ1 σ _ (h1.mut e1 rfl za rfl hb ⟨a, _, rfl, upd_same, r'.app (.cons r1 .nil), nF', nM', hb⟩)⟩
    · rw [if_neg c] at o1
      exact o1.elim
  · exact ho.elim
theorem ss_ins {i : Nat} {x : Str} {e2 : Expr} (h : PS X (.Expr (.Call (.Attribute (.Name x p) "insert" p1) [e, e2] [] p2) pos) (tDrop (tBM X.K "list" (fun x vs H Q => ∃ (l : Addr) (xs : List V) (i : Int) (y : V), x = .ref l ∧ vs = [.int i, y] ∧ H l = some (.lst xs) ∧ xs.length < sizeLine ∧ 0 ≤ i ∧ i < 2 ^ 63 ∧
    Q .non (upd H l (.lst (xs.take i.toNat ++ [y] ++ xs.drop i.toNat)))) (tVar i) (tCons (wE X.K W f1) (tCons (wE X.K W f2) tNil))))) : SS X W (.Expr (.Call (.Attribute (.Name x p) "insert" p1) [e, e2] [] p2) pos) (sIns i f1 f2) := PS.imp h fun D σ H ⟨B, F, μ, S, δ, hs, ho⟩ => by
  unfold sIns at ho
  split at ho
  · rename_i xs e1
    obtain ⟨a, vs, z, hp, r, nF, nM, hb⟩ := hs.sl i _ e1
    have za := hs.addr e1 z
    refine ⟨_, za, .inl ⟨rfl, _, SqL.of hp⟩, ?_⟩
    refine wE_rdS hs ho fun k S0 F0 μ0 H0 v0 t0 h0 r0 o0 => ?_
    cases k <;> simp only at o0
    case int n =>
      have en := (r0.rr h0).int; subst en
      refine wE_P h0 o0 fun d S1 F1 μ1 H1 v t h1 r1 o1 => ?_
      by_cases c : xs.length < cap ∧ 0 ≤ n ∧ n ≤ 1000000000
      · rw [if_pos c] at o1
        obtain ⟨a', vs', z', hp', r', nF', nM', hb'⟩ := h1.sl i _ e1
        rw [z] at z'
        cases z'
        exact ⟨a, vs', n, v, rfl, rfl, hp', by rw [r'.len]; exact cap_lt c.1, c.2.1, by omega, o1 F1 μ1 σ _ (h1.mut e1 rfl za rfl hb ⟨a, _, rfl, upd_same, ((r'.take _).app (.cons r1 .nil)).app (r'.drop _), nF', nM', hb⟩)⟩
      · rw [if_neg c] at o1
        exact o1.elim
    all_goals exact o0.elim
  · exact ho.elim
end
def fldD (k : Nat) (d : D) : Option Sl := match d with
  | .ins _ ds => (ds[k]?).map .pl
  | _ => none
def eFld (c k : Nat) (f : Fe) : Fe := fun δ S => (rd f δ S).bind fun d S => match d with
  | .ins c' ds => if c' = c then lift ((ds[k]?).map .pl) S else .st
  | _ => .st
theorem lookup_nth : ∀ {fs : List (Str × V)} {k : Nat} {x : Str} {v : V}, (fs.map (·.1))[k]? = some x → (fs.map (·.1)).Nodup → (fs.map (·.2))[k]? = some v → fs.lookup x = some v
  | [], k, x, v, h, _, _ => by simp at h
  | (y, w) :: fs, 0, x, v, h, _, hv => by
    simp at h hv
    subst h hv
    rw [List.lookup_cons]
    simp
  | (y, w) :: fs, k + 1, x, v, h, nd, hv => by
    rw [List.map_cons, List.nodup_cons] at nd
    rw [List.map_cons, List.getElem?_cons_succ] at h hv
    have hne : x ≠ y := fun e => by subst e; exact nd.1 (List.mem_of_getElem? h)
    rw [List.lookup_cons]
    have : (x == y) = false := by simpa using hne
    rw [this]
    exact lookup_nth h nd.2 hv
section
variable {X : Cx} {W : WX} {e : Expr} {f : Fe} {pos : Pos}
theorem se_fld {c k : Nat} {x : Str} (he : SE X W e f) (cl : Cls X.K (cA X.K c)) (na : NoAttr X.K (cA X.K c) x) (hk : (clF c)[k]? = some x) (nd : (clF c).Nodup) (hb : attributeBase e x X.env (eval e X.env) = eval e X.env := by rfl) : SE X W (.Attribute e x pos) (eFld c k f) :=
  PE.imp (pe_fld he hb) fun σ H Q ⟨B, F, μ, S, δ, hs, ho⟩ => by
    refine wE_rd hs ho fun d S1 F1 μ1 H1 v t1 h1 v1 o1 => ?_
    cases d <;> simp only at o1
    case ins c' ds =>
      by_cases ec : c' = c
      · rw [if_pos ec] at o1
        subst ec
        cases q : ds[k]? with
        | none => rw [q] at o1; exact o1.elim
        | some d =>
          rw [q] at o1
          rcases v1 with h | ⟨_, _, e1, _⟩
          · cases h with
            | ins h n r =>
              obtain ⟨w, hw, rw_⟩ := r.getD q
              refine ⟨_, _, _, _, w, rfl, h1.ok.sub _ _ h, cl, na, lookup_nth (by rw [n]; exact hk) (by rw [n]; exact nd) hw, o1.same h1.ok rw_⟩
          · cases e1
      · rw [if_neg ec] at o1
        exact o1.elim
    all_goals exact o1.elim
end
end Gt
set_option Elab.async false
set_option linter.all false
set_option maxRecDepth 100000
namespace Gt
open PySem PySem.Spec PyProof.Rows L2
theorem room65 {k : Nat} {A : Around} (r : Room k A) : A.units + 65 < cLine := by have := r.un; omega
theorem room68 {k : Nat} {A : Around} (r : Room k A) : A.units + 70 < cLine := by have := r.un; omega
section
variable {prog : Program} {w : World} {A : Around} {E : Value → Shared → Prop} {s : Shared}
theorem collect_seq {l : Addr} {o : Obj} {n : Nat} {vs : List Value} {Q : List Value → Shared → Prop} (ho : s.heap.get? l = some o) (hc : o.cls = .type "list" ∨ o.cls = .type "tuple") (hd : o.data = .seq vs.toArray n)
    (h : Q vs { s with heap := (s.heap.push (seqObj "list" #[] 0)).update s.heap.objs.size (Obj.mapSeq (· ++ vs.toArray)) }) (hsz : vs.length ≤ sizeLine) :
    wpAny (model prog w) A (collect (.ref l)) Q E s := by
  unfold collect
  refine wpAny_bind (wpAny_runValue (codeAny_builtin entry_proto_collect' ?_))
  show wpAny _ _ (do again (.builtin "list.__iadd__" ⟨[← newList [], .ref l], []⟩)) _ _ s
  refine wpAny_bind (wpAny_newList (wpAny_pure ⟨Code.quiet_builtin _ (by decide +kernel), codeAny_builtin entry_list_iadd' ?_⟩))
  show wpAny _ _ (Builtin.List.listExtendWith (.ref s.heap.objs.size) (.ref l) (.ref s.heap.objs.size)) _ _ { s with heap := s.heap.push (seqObj "list" #[] 0) }
  unfold Builtin.List.listExtendWith
  have ho' : (s.heap.push (seqObj "list" #[] 0)).get? l = some o := Heap.get?_push_of_some _ ho
  have fin : wpAny (model prog w) A (do
      let o ← load s.heap.objs.size
      match o.data with
      | .seq xs _ => pure xs.toList
      | _ => unsupported "internal:collect") Q E { s with heap := (s.heap.push (seqObj "list" #[] 0)).update s.heap.objs.size (Obj.mapSeq (· ++ vs.toArray)) } := by
    refine wpAny_bind (wpAny_load (get?_update_seq (Heap.get?_push_size _ rfl) _) ?_)
    show wpAny _ _ (pure ((#[] : Array Value) ++ vs.toArray).toList) Q E _
    rw [show ((#[] : Array Value) ++ vs.toArray).toList = vs by simp]
    exact wpAny_pure h
  rcases hc with hc | hc
  · refine wpAny_bind (wpAny_typeOf (T := "list") ⟨o, ho', hc⟩ ?_)
    have ht : (Value.type "list" == Value.type "list") = true := by rfl
    rw [if_pos (by rw [ht]; simp)]
    refine wpAny_bind (listItems_at ho' hd ?_)
    refine wpAny_bind (listItems_at (xs := #[]) (n := 0) (Heap.get?_push_size _ rfl) rfl ?_)
    rw [if_neg (by simp)]
    refine wpAny_bind (listUpdate_at (xs := #[]) (n := 0) (Heap.get?_push_size _ rfl) rfl ?_ (Nat.zero_le _) (by show (#[] ++ vs.toArray).size ≤ sizeLine + 1; simp only [Array.size_append, List.size_toArray, List.length_nil]; omega))
    exact wpAny_pure fin
  · refine wpAny_bind (wpAny_typeOf (T := "tuple") ⟨o, ho', hc⟩ ?_)
    have ht : (Value.type "tuple" == Value.type "tuple") = true := by rfl
    rw [if_pos (by rw [ht]; simp)]
    refine wpAny_bind (listItems_at ho' hd ?_)
    refine wpAny_bind (listItems_at (xs := #[]) (n := 0) (Heap.get?_push_size _ rfl) rfl ?_)
    rw [if_neg (by simp)]
    refine wpAny_bind (listUpdate_at (xs := #[]) (n := 0) (Heap.get?_push_size _ rfl) rfl ?_ (Nat.zero_le _) (by show (#[] ++ vs.toArray).size ≤ sizeLine + 1; simp only [Array.size_append, List.size_toArray, List.length_nil]; omega))
    exact wpAny_pure fin
theorem sorted_seq {β : Type} {R : Value → β → Prop} {enc : β → PyData} {bs : List β} {l : Addr} {o : Obj} {n : Nat} {vs : List Value} {Q : Value → Shared → Prop} (ho : s.heap.get? l = some o) (hc : o.cls = .type "list" ∨ o.cls = .type "tuple") (hd : o.data = .seq vs.toArray n)
    (e : PySem.W.EachIs R vs bs) (er : PySem.W.EachIs (fun v b => ∃ as, Reads s.heap v (enc b) as) vs bs) (hal : PySem.W.AllAlike (bs.map enc)) (hk : PySem.W.Sortable (bs.map enc)) (hL : bs.length ≤ sizeLine)
    (hu : ∀ b, b ∈ bs → A.units + 2 + (enc b).depth < cLine) (h : ∀ out, out.length = bs.length → PySem.W.EachIs R out (bs.mergeSort (PySem.W.dataLe false enc)) → Q (.ref (s.heap.objs.size + 1)) { s with heap := sortedAll s.heap vs (List.toArray out) }) :
    wpAny (model prog w) A (call (.builtin "sorted") [.ref l]) Q E s := by
  have er' : PySem.W.EachIs (fun v b => ∃ as, Reads (PySem.W.sortingHeap (PySem.W.copyHeap s.heap vs) (s.heap.objs.size + 1) vs) v (enc b) as) vs bs := er.mono fun _ _ ⟨as, r⟩ => ⟨as, PyProof.Rows.Reads.keeps (fun _ _ => PySem.W.sorting_copy_old) r⟩
  have S := PySem.W.SortsAt.data (prog := prog) (w := w) (A := A.in1.in1) (s := { s with heap := PySem.W.sortingHeap (PySem.W.copyHeap s.heap vs) (s.heap.objs.size + 1) vs }) (PySem.W.each_map (R := fun v d => ∃ as, Reads (PySem.W.sortingHeap (PySem.W.copyHeap s.heap vs) (s.heap.objs.size + 1) vs) v d as) enc er') hal hk (PySem.W.bound_map hu)
  have hL2 : vs.length ≤ sizeLine := by rw [e.length]; exact hL
  have hq := h _ (by rw [PySem.W.sortVals_length false rfl]; exact e.length) (PySem.W.sortVals_data false e er' hal)
  refine call_function_entry_kw kind_sorted plain_sorted entry_sorted (args_sorted1 _) ?_
  unfold Builtin.«sorted»
  refine wpAny_bind (m := checkCount "sorted" 1 1 _) (wpAny_pure ?_)
  refine wpAny_bind (collect_seq ho hc hd ?_ hL2)
  refine wpAny_bind (wpAny_newList ?_ hL2)
  have hsz : ((s.heap.push (seqObj "list" #[] 0)).update s.heap.objs.size (Obj.mapSeq (· ++ vs.toArray))).objs.size = s.heap.objs.size + 1 := by
    rw [Heap.size_update, size_push']
  show wpAny _ _ _ _ _ { s with heap := PySem.W.copyHeap s.heap vs }
  rw [hsz]
  refine wpAny_bind (wpAny_holding (wpAny_call_entry_kw slot_list_sort ⟨_, PySem.W.copyHeap_at s.heap vs, rfl⟩ entry_list_sort ?body (args_list_sort _)))
  case body =>
    show wpAny (model prog w) A.in1.in1 (Builtin.«list.sort» ⟨[.ref (s.heap.objs.size + 1)], []⟩) _ _ _
    refine wpAny_mono (PySem.W.list_sort_vals (s := { s with heap := PySem.W.copyHeap s.heap vs }) (P := fun f s' => f = .done (.ret .none) ∧ Q (.ref (s.heap.objs.size + 1)) s') (PySem.W.copyHeap_at s.heap vs) S hL2 ⟨rfl, hq⟩) (fun f s' hf => ?_) fun _ _ e => e
    obtain ⟨rfl, hq⟩ := hf
    exact ⟨_, rfl, wpAny_pure ⟨_, rfl, hq⟩⟩
end
def smallD (d : D) : Bool := plainD d && decide ((toPy d).depth ≤ 60)
def likeD (x y : D) : Bool := PySem.W.alike (toPy x) (toPy y)
def tupNe : D → Bool
  | .tup (_ :: _) => true
  | _ => false
def notTup : D → Bool
  | .tup _ => false
  | .non => false
  | _ => true
def okSort (xs : List D) : Bool := decide (xs.length ≤ cap) && (xs.all smallD && ((xs.all fun x => xs.all fun y => likeD x y) && (xs.all tupNe || xs.all notTup)))
def leD (x y : D) : Bool := PySem.W.dataLe false toPy x y
def sortD (xs : List D) : List D := xs.mergeSort leD
def seqD : D → Option (List D)
  | .lst xs => some xs
  | .tup xs => some xs
  | _ => none
def sortS : List D → Option Sl
  | [d] => match seqD d with
    | some xs => if okSort xs then some (.own (sortD xs)) else none
    | none => none
  | _ => none
def cmpD (f : PyData → PyData → Bool) (x y : D) : Option Bool := if smallD x && (smallD y && (likeD x y && !isNon x)) then some (f (toPy x) (toPy y)) else none
def ltS (x y : D) : Option Sl := blS (cmpD PySem.W.dataLt x y)
def gtS (x y : D) : Option Sl := blS (cmpD (fun a b => PySem.W.dataLt b a) x y)
def leS (x y : D) : Option Sl := blS (cmpD (fun a b => !PySem.W.dataLt b a) x y)
def geS (x y : D) : Option Sl := blS (cmpD (fun a b => !PySem.W.dataLt a b) x y)
def inS (x y : D) : Option Sl := (inD x y).map fun b => .pl (.bl (false ^^ b))
def notInS (x y : D) : Option Sl := (inD x y).map fun b => .pl (.bl (true ^^ b))
def isBS : D → D → Option Sl
  | .bl a, .bl b => some (.pl (.bl (decide (a = b))))
  | _, _ => none
def isntBS : D → D → Option Sl
  | .bl a, .bl b => some (.pl (.bl (!decide (a = b))))
  | _, _ => none
theorem g_isb {K : PySem.W.Frag} : G2 K (fun x y H Q => ∃ a b, x = V.bl a ∧ y = V.bl b ∧ Q (V.bl (decide (a = b))) H) isBS := by
  intro F μ S H x y dx dy s Q o rx ry e k
  cases dx <;> cases dy <;> simp only [isBS, reduceCtorEq, Option.some.injEq] at e
  subst e
  have hx := rx.bl; have hy := ry.bl
  subst hx hy
  exact ⟨_, _, rfl, rfl, end_pl o (fun _ _ => .bl _) k⟩
theorem g_isntb {K : PySem.W.Frag} : G2 K (fun x y H Q => ∃ a b, x = V.bl a ∧ y = V.bl b ∧ Q (V.bl (!decide (a = b))) H) isntBS := by
  intro F μ S H x y dx dy s Q o rx ry e k
  cases dx <;> cases dy <;> simp only [isntBS, reduceCtorEq, Option.some.injEq] at e
  subst e
  have hx := rx.bl; have hy := ry.bl
  subst hx hy
  exact ⟨_, _, rfl, rfl, end_pl o (fun _ _ => .bl _) k⟩
def rCmpD (K : PySem.W.Frag) (f : PyData → PyData → Bool) : R2 := fun x y H Q => ∃ d e, Dp K H x d ∧ Dp K H y e ∧ PySem.W.alike d e = true ∧ d ≠ .none ∧ d.depth ≤ 60 ∧ Q (.bl (f d e)) H
theorem smallD_iff {d : D} (h : smallD d = true) : plainD d = true ∧ (toPy d).depth ≤ 60 := by
  unfold smallD at h
  rw [Bool.and_eq_true] at h
  exact ⟨h.1, of_decide_eq_true h.2⟩
theorem room60 {A : Around} {d e : PyData} (hu : A.units + 64 < cLine) (h : d.depth ≤ 60) : A.units + min d.depth e.depth < cLine := by
  have := Nat.min_le_left d.depth e.depth
  omega
theorem toPy_none {d : D} (p : plainD d = true) (h : isNon d = false) : toPy d ≠ .none := by
  cases d <;> simp [plainD, isNon, toPy] at *
theorem g_cmpD {K : PySem.W.Frag} {f : PyData → PyData → Bool} : G2 K (rCmpD K f) fun x y => blS (cmpD f x y) := by
  intro F μ S H x y dx dy s Q o rx ry e k
  dsimp only at e
  unfold cmpD at e
  by_cases c : (smallD dx && (smallD dy && (likeD dx dy && !isNon dx))) = true
  · rw [if_pos c] at e
    cases e
    rw [Bool.and_eq_true, Bool.and_eq_true, Bool.and_eq_true] at c
    obtain ⟨c1, c2, c3, c4⟩ := c
    obtain ⟨p1, h1⟩ := smallD_iff c1
    obtain ⟨p2, _⟩ := smallD_iff c2
    have c5 : isNon dx = false := by simpa using c4
    exact ⟨_, _, (rx.toH o.sub).dp p1, (ry.toH o.sub).dp p2, c3, toPy_none p1 c5, h1, end_pl o (fun _ _ => .bl _) k⟩
  · rw [if_neg c] at e
    cases e
theorem g_lt {K : PySem.W.Frag} : G2 K (rCmpD K PySem.W.dataLt) ltS := g_cmpD
theorem g_gt {K : PySem.W.Frag} : G2 K (rCmpD K fun a b => PySem.W.dataLt b a) gtS := g_cmpD
theorem g_le {K : PySem.W.Frag} : G2 K (rCmpD K fun a b => !PySem.W.dataLt b a) leS := g_cmpD
theorem g_ge {K : PySem.W.Frag} : G2 K (rCmpD K fun a b => !PySem.W.dataLt a b) geS := g_cmpD
section
variable {X : Cx}
theorem op_ltD (hu : X.A.units + 64 < cLine) : OpR X (compareOp .Lt) (rCmpD X.K PySem.W.dataLt) := by
  intro pins s σ H x y v u Q I rx ry ⟨d, e, hd, he, ha, hn, hs, q⟩
  obtain ⟨as, r1⟩ := Dp.reads I d x v hd rx
  obtain ⟨bs, r2⟩ := Dp.reads I e y u he ry
  exact PySem.W.lt_data r1 r2 ha hn (room60 hu hs) ⟨.bl _, H, I, rfl, q⟩
theorem op_gtD (hu : X.A.units + 64 < cLine) : OpR X (compareOp .Gt) (rCmpD X.K fun a b => PySem.W.dataLt b a) := by
  intro pins s σ H x y v u Q I rx ry ⟨d, e, hd, he, ha, hn, hs, q⟩
  obtain ⟨as, r1⟩ := Dp.reads I d x v hd rx
  obtain ⟨bs, r2⟩ := Dp.reads I e y u he ry
  exact PySem.W.gt_data r1 r2 ha hn (room60 hu hs) ⟨.bl _, H, I, rfl, q⟩
theorem op_leD (hu : X.A.units + 64 < cLine) : OpR X (compareOp .LtE) (rCmpD X.K fun a b => !PySem.W.dataLt b a) := by
  intro pins s σ H x y v u Q I rx ry ⟨d, e, hd, he, ha, hn, hs, q⟩
  obtain ⟨as, r1⟩ := Dp.reads I d x v hd rx
  obtain ⟨bs, r2⟩ := Dp.reads I e y u he ry
  exact PySem.W.le_data r1 r2 ha hn (room60 hu hs) ⟨.bl _, H, I, rfl, q⟩
theorem op_geD (hu : X.A.units + 64 < cLine) : OpR X (compareOp .GtE) (rCmpD X.K fun a b => !PySem.W.dataLt a b) := by
  intro pins s σ H x y v u Q I rx ry ⟨d, e, hd, he, ha, hn, hs, q⟩
  obtain ⟨as, r1⟩ := Dp.reads I d x v hd rx
  obtain ⟨bs, r2⟩ := Dp.reads I e y u he ry
  exact PySem.W.ge_data r1 r2 ha hn (room60 hu hs) ⟨.bl _, H, I, rfl, q⟩
def encP (b : V × D) : PyData := toPy b.2
def rSortD (K : PySem.W.Frag) : List V → Hp → VK → Prop := fun xs H Q => ∃ (a : Addr) (bs : List (V × D)), xs = [.ref a] ∧ (SqL K H a (bs.map (·.1)) ∨ SqT K H a (bs.map (·.1))) ∧ (∀ b, b ∈ bs → Dp K H b.1 (encP b)) ∧ PySem.W.AllAlike (bs.map encP) ∧ PySem.W.Sortable (bs.map encP) ∧
  bs.length ≤ sizeLine ∧ (∀ b, b ∈ bs → (encP b).depth ≤ 60) ∧ ∀ p, H p = none → Q (.ref p) (upd H p (.lst ((bs.mergeSort (PySem.W.dataLe false encP)).map (·.1))))
theorem each_of {bs : List (V × D)} : ∀ {us : List Value}, Vals (bs.map (·.1)) us → PySem.W.EachIs (fun u (b : V × D) => RelV b.1 u) us bs := by
  induction bs with
  | nil => intro us r; cases r; exact .nil
  | cons b bs ih =>
    intro us r
    cases r with
    | cons h t => exact .cons h (ih t)
theorem of_each : ∀ {us : List Value} {bs : List (V × D)}, PySem.W.EachIs (fun u (b : V × D) => RelV b.1 u) us bs → Vals (bs.map (·.1)) us
  | _, _, .nil => .nil
  | _, _, .cons h t => .cons h (of_each t)
theorem each_mem {α β : Type} {R R' : α → β → Prop} : ∀ {us : List α} {bs : List β}, PySem.W.EachIs R us bs → (∀ a b, b ∈ bs → R a b → R' a b) → PySem.W.EachIs R' us bs
  | _, _, .nil, _ => .nil
  | _, _, .cons h t, f => .cons (f _ _ List.mem_cons_self h) (each_mem t fun a b m r => f a b (List.mem_cons_of_mem _ m) r)
theorem cr_sortD {k : Nat} (hr : Room k X.A) : CallR X (.builtin "sorted") (rSortD X.K) := by
  intro pins s σ H vs us Q I r h
  obtain ⟨a, bs, rfl, hq, hd, hal, hk, hL, hdep, q⟩ := h
  obtain ⟨u, rfl, ru⟩ := vals1 r
  obtain rfl : u = Value.ref a := ru
  have hu := room65 hr
  have main : ∀ (its : List Value) (o : Obj) (n : Nat), Vals (bs.map (·.1)) its → s.heap.get? a = some o → (o.cls = .type "list" ∨ o.cls = .type "tuple") → o.data = .seq its.toArray n → wpAny (model X.prog X.w) X.A (call (.builtin "sorted") [.ref a]) (EP X pins σ Q) X.xe s := fun its o n rv ho hc hdt => by
    have e := each_of rv
    refine sorted_seq (enc := encP) ho hc hdt e (each_mem e fun u b m ru => by
      obtain ⟨as, rr⟩ := Dp.reads I (encP b) b.1 u (hd b m) ru
      exact ⟨as, rr⟩) hal hk hL (fun b m => by have := hdep b m; omega) fun out hlen ho2 => ?_
    have rv2 := of_each ho2
    obtain ⟨n2, hn2⟩ := sortedAll_at s.heap its out.toArray
    have hfr : H (s.heap.objs.size + 1) = none := I.hok.fresh (Nat.le_succ _)
    refine ⟨.ref (s.heap.objs.size + 1), upd H (s.heap.objs.size + 1) (.lst ((bs.mergeSort (PySem.W.dataLe false encP)).map (·.1))), I.laid (t' := s.toks) (fun b o e => sortedAll_old e) (Nat.le_succ _) ⟨?_, out, n2, rv2, hn2⟩, rfl, q _ hfr⟩
    rw [List.length_map, List.length_mergeSort]
    exact hL
  rcases hq with hq | hq
  · obtain ⟨its, rv, ⟨o, n, ho, hc, _, hdt⟩, _⟩ := I.list hq
    exact main its o n rv ho (.inl hc) hdt
  · obtain ⟨its, rv, ⟨o, ho, hc, n, hdt⟩, _⟩ := I.tuple hq
    exact main its o n rv ho (.inr hc) hdt
end
theorem zip_fst {K : PySem.W.Frag} {F : Hp} {μ : List Addr} : ∀ {vs : List V} {ds : List D}, RpA K F μ vs ds → (vs.zip ds).map (·.1) = vs ∧ (vs.zip ds).map (·.2) = ds ∧ ∀ b, b ∈ vs.zip ds → Rp K F μ b.1 b.2 ∧ b.2 ∈ ds
  | _, _, .nil => ⟨rfl, rfl, fun _ h => by cases h⟩
  | _, _, .cons h t => by
    obtain ⟨a, b, c⟩ := zip_fst t
    refine ⟨by rw [List.zip_cons_cons, List.map_cons, a], by rw [List.zip_cons_cons, List.map_cons, b], fun x hx => ?_⟩
    rw [List.zip_cons_cons] at hx
    rcases List.mem_cons.mp hx with e | hx
    · subst e; exact ⟨h, List.mem_cons_self⟩
    · exact ⟨(c x hx).1, List.mem_cons_of_mem _ (c x hx).2⟩
theorem rpA_pairs {K : PySem.W.Frag} {F : Hp} {μ : List Addr} : ∀ (bs : List (V × D)), (∀ b, b ∈ bs → Rp K F μ b.1 b.2) → RpA K F μ (bs.map (·.1)) (bs.map (·.2))
  | [], _ => .nil
  | b :: bs, h => .cons (h b List.mem_cons_self) (rpA_pairs bs fun x hx => h x (List.mem_cons_of_mem _ hx))
theorem okSort_iff {xs : List D} (h : okSort xs = true) : xs.length ≤ cap ∧ (∀ x, x ∈ xs → smallD x = true) ∧ (∀ x, x ∈ xs → ∀ y, y ∈ xs → likeD x y = true) ∧ ((∀ x, x ∈ xs → tupNe x = true) ∨ ∀ x, x ∈ xs → notTup x = true) := by
  unfold okSort at h
  rw [Bool.and_eq_true, Bool.and_eq_true, Bool.and_eq_true, Bool.or_eq_true] at h
  obtain ⟨h1, h2, h3, h4⟩ := h
  refine ⟨of_decide_eq_true h1, List.all_eq_true.mp h2, fun x hx => List.all_eq_true.mp (List.all_eq_true.mp h3 x hx), h4.imp List.all_eq_true.mp List.all_eq_true.mp⟩
theorem mergeSort_pairs (bs : List (V × D)) : (bs.mergeSort (PySem.W.dataLe false encP)).map (·.2) = sortD (bs.map (·.2)) := by
  unfold sortD leD
  exact List.map_mergeSort fun a _ b _ => rfl
theorem g_sort {K : PySem.W.Frag} : GC K (rSortD K) sortS := by
  intro F μ S H vs ds s Q o r e k
  unfold sortS at e
  split at e
  · rename_i d
    cases q : seqD d with
    | none => rw [q] at e; cases e
    | some xs =>
      rw [q] at e
      dsimp only at e
      split at e
      · rename_i c
        cases e
        obtain ⟨c1, c2, c3, c4⟩ := okSort_iff c
        obtain ⟨v, rfl, r1⟩ := rrs1 r
        have main : ∀ (p : Addr) (ws : List V), v = .ref p → (SqL K H p ws ∨ SqT K H p ws) → RpA K F μ ws xs → rSortD K [v] H Q := fun p ws ev hq rr => by
          obtain ⟨z1, z2, z3⟩ := zip_fst rr
          have ez : (ws.zip xs).map encP = xs.map toPy := by
            have : (ws.zip xs).map encP = ((ws.zip xs).map (·.2)).map toPy := by rw [List.map_map]; rfl
            rw [this, z2]
          have hz : ∀ b, b ∈ ws.zip xs → smallD b.2 = true := fun b hb => c2 _ (z3 b hb).2
          refine ⟨p, ws.zip xs, by rw [ev], by rw [z1]; exact hq, fun b hb => ((z3 b hb).1.mono o.sub (.refl μ)).dp (smallD_iff (hz b hb)).1, ?_, ?_, ?_, fun b hb => (smallD_iff (hz b hb)).2, fun q hq => ?_⟩
          · rw [ez]
            intro d1 h1 d2 h2
            obtain ⟨x1, m1, rfl⟩ := List.mem_map.mp h1
            obtain ⟨x2, m2, rfl⟩ := List.mem_map.mp h2
            exact c3 x1 m1 x2 m2
          · rw [ez]
            rcases c4 with c4 | c4
            · refine .inl fun d1 h1 => ?_
              obtain ⟨x1, m1, rfl⟩ := List.mem_map.mp h1
              have := c4 x1 m1
              cases x1 <;> simp only [tupNe, reduceCtorEq] at this
              case tup ys =>
                cases ys with
                | nil => simp [tupNe] at this
                | cons y ys => exact ⟨_, _, rfl⟩
            · refine .inr fun d1 h1 => ?_
              obtain ⟨x1, m1, rfl⟩ := List.mem_map.mp h1
              have c5 := c4 x1 m1
              have c6 := (smallD_iff (c2 x1 m1)).1
              cases x1 <;> simp [notTup, toPy, plainD] at c5 c6 ⊢
          · have := congrArg List.length z2
            rw [List.length_map] at this
            rw [this]
            exact cap_le c1
          · have rs : RpA K F μ (((ws.zip xs).mergeSort (PySem.W.dataLe false encP)).map (·.1)) (sortD xs) := by
              have h2 := rpA_pairs (K := K) (F := F) (μ := μ) ((ws.zip xs).mergeSort (PySem.W.dataLe false encP)) fun b hb => (z3 b (List.mem_mergeSort.mp hb)).1
              rw [mergeSort_pairs, z2] at h2
              exact h2
            exact end_own o rs hq k
        cases d <;> simp only [seqD, reduceCtorEq, Option.some.injEq] at q
        case lst ys =>
          subst q
          obtain ⟨p, ws, ev, h, rr⟩ := r1.lst o.sub
          exact main p ws ev (.inl (SqL.of h)) rr
        case tup ys =>
          subst q
          obtain ⟨p, ws, ev, h, rr⟩ := r1.tup o.sub
          exact main p ws ev (.inr h) rr
      · cases e
  · cases e
end Gt
set_option Elab.async false
set_option linter.all false
set_option maxRecDepth 100000
namespace Gt
open PySem PySem.Spec PyProof.Rows L2
section
variable {K : PySem.W.Frag} {W : WX} {B : Bs} {F F' H H' : Hp} {μ μ' : List Addr} {S S' : Ms} {δ : Evm} {σ : L2.St} {Q : VK}
theorem tru_of {v : V} {d : D} {b : Bool} (o : Ok K F μ S H) (rr : RR K F μ H v d) (e : truD d = some b) : TruV K v H b := by
  cases d <;> simp only [truD, reduceCtorEq, Option.some.injEq] at e
  case non => have := rr.non; subst this; subst e; exact rfl
  case bl b => have := rr.bl; subst this; subst e; exact rfl
  case int i => have := rr.int; subst this; subst e; exact rfl
  case str x =>
    have := rr.str; subst this
    by_cases c : x.length ≤ cap
    · rw [if_pos c] at e
      cases e
      exact ⟨cap_le c, rfl⟩
    · rw [if_neg c] at e
      cases e
  case lst xs =>
    subst e
    obtain ⟨p, vs, rfl, hp, r⟩ := rr.lst o.sub
    have e : vs.isEmpty = xs.isEmpty := by
      have := r.len
      cases vs <;> cases xs <;> simp_all
    exact .inl ⟨vs, SqL.of hp, by rw [e]⟩
  case tup xs =>
    subst e
    obtain ⟨p, vs, rfl, hp, r⟩ := rr.tup o.sub
    have e : vs.isEmpty = xs.isEmpty := by
      have := r.len
      cases vs <;> cases xs <;> simp_all
    exact .inr (.inl ⟨vs, hp, by rw [e]⟩)
end
def eNotT (fa : Fe) : Fe := fun δ S => (rd fa δ S).bind fun d S => match truD d with
  | some b => .ok (.pl (.bl (!b))) S
  | none => .st
section
variable {X : Cx} {W : WX} {a b c e : Expr} {fa fb fc f : Fe} {pos : Pos}
theorem se_notT (h : SE X W a fa) : SE X W (.UnaryOp .Not a pos) (eNotT fa) := PE.imp (pe_notT h) fun σ H Q ⟨B, F, μ, S, δ, hs, ho⟩ => by
  refine wE_rd hs ho fun d S1 F1 μ1 H1 v t1 h1 v1 o1 => ?_
  cases q : truD d with
  | none => rw [q] at o1; exact o1.elim
  | some b =>
    rw [q] at o1
    exact ⟨b, tru_of h1.ok (v1.rr h1) q, o1.same h1.ok (.bl _)⟩
theorem se_chainR {op op' : CmpOp} {r r' : R2} {g g' : D → D → Option Sl} (ho : OpR X (compareOp op) r) (ho' : OpR X (compareOp op') r') (hg : G2 X.K r g) (hg' : G2 X.K r' g') (ha : SE X W a fa) (hb : SE X W b fb) (hc : SE X W c fc)
    (hm : lastMarks [op, op'] [b, c] = false := by with_unfolding_all rfl) : SE X W (.Compare a [op, op'] [b, c] pos) (eChain g g' fa fb fc) := se_chain ho ho' hg hg' ha hb hc (pe_chain ho ho' ha hb hc hm)
theorem st_chainR {op op' : CmpOp} {r r' : R2} {g g' : D → D → Option Sl} (ho : OpR X (compareOp op) r) (ho' : OpR X (compareOp op') r') (hg : G2 X.K r g) (hg' : G2 X.K r' g') (ha : SE X W a fa) (hb : SE X W b fb) (hc : SE X W c fc)
    (hm : lastMarks [op, op'] [b, c] = false := by with_unfolding_all rfl) : ST X W (.Compare a [op, op'] [b, c] pos) (tB' (eChain g g' fa fb fc)) := PT.imp (pt_chain ho ho' ha hb hc hm) fun _ _ _ q => tB_of (fun _ _ _ => tChain_of hg hg') q
theorem st_is {op : CmpOp} (h : SE X W (.Compare a [op] [b] pos) f) (he : ∀ whole, isTrue (.Compare a [op] [b] pos) X.env whole = (do let v ← whole; standAt (Expr.Compare a [op] [b] pos).pos; holding [v] (truthy v)) := by intro _; rfl) : ST X W (.Compare a [op] [b] pos) (tB' f) := st_bool h he
end
def eProp (h : Fn) (fa : Fe) : Fe := fun δ S => (rd fa δ S).bind fun d S => match h [.pl d] S with
  | .ok s S => .ok s S
  | _ => .st
section
variable {X : Cx} {W : WX} {e : Expr} {f : Fe} {pos : Pos} {x : Str} {p g : Addr} {fd : FuncData} {ps : List Str} {k c : Nat} {h : Fn}
theorem se_prop (G : FnOk X.prog X.w X.K X.mg X.base (L2.CX X.prog X.w) k g fd ps (spF X.K 1 h)) (hr : Room (k + 1) X.A) (cl : Cls X.K (cA X.K c)) (hp : PropOf X.K (cA X.K c) x p g) (hb : Binds X.K fd ps []) (hc : ∀ d S s S', h [.pl d] S = .ok s S' → ∃ ds, d = .ins c ds) (he : SE X W e f)
    (hab : attributeBase e x X.env (eval e X.env) = eval e X.env := by rfl) : SE X W (.Attribute e x pos) (eProp h f) := PE.imp (pe_prop he cl hp G hr hb .nil (passL (X := X.nox)) hab) fun σ H Q ⟨B, F, μ, S, δ, hs, ho⟩ => by
  refine wE_rd hs ho fun d S1 F1 μ1 H1 v t1 h1 v1 o1 => ?_
  cases q : h [.pl d] S1 with
  | st => rw [q] at o1; exact o1.elim
  | ex _ _ => rw [q] at o1; exact o1.elim
  | ok s S2 =>
    rw [q] at o1
    obtain ⟨ds, rfl⟩ := hc _ _ _ _ q
    rcases v1 with v1 | ⟨_, _, e1, _⟩
    · have v2 := v1
      cases v1 with
      | ins hh n r =>
        refine ⟨_, _, _, rfl, h1.ok.sub _ _ hh, F1, μ1, S1, [.pl (.ins c ds)], rfl, h1.ok, .cons v2 .nil, ?_⟩
        rw [q]
        exact fun F2 μ2 H2 v t2 o2 r2 => o1 F2 μ2 H2 v t2 o2 r2.of_nil
    · cases e1
end
def strsD : List D → Option (List Str)
  | [] => some []
  | .str x :: r => (strsD r).map (x :: ·)
  | _ :: _ => none
def joinS : D → D → Option Sl
  | .str a, .lst xs => match strsD xs with
    | some ys => if (ys.map (·.length)).sum + ys.length * a.length ≤ 16777216 then some (.pl (.str (Txt.join a ys))) else none
    | none => none
  | .str a, .tup xs => match strsD xs with
    | some ys => if (ys.map (·.length)).sum + ys.length * a.length ≤ 16777216 then some (.pl (.str (Txt.join a ys))) else none
    | none => none
  | _, _ => none
def splitS : D → D → Option Sl
  | .str a, .str b => if (b.length == 0) = false ∧ a.length ≤ cap then some (.own ((Txt.split a b).map .str)) else none
  | _, _ => none
def rmpS : D → D → Option Sl
  | .str a, .str b => if a.length ≤ cap then some (.pl (.str (Txt.removeprefix a b))) else none
  | _, _ => none
section
variable {K : PySem.W.Frag} {F H : Hp} {μ : List Addr} {S : Ms}
theorem strsD_vs : ∀ {ds : List D} {bs : List Str} {vs : List V}, strsD ds = some bs → RpA K F μ vs ds → vs = bs.map V.str
  | _, _, _, e, .nil => by cases e; rfl
  | d :: ds, bs, _, e, .cons h r => by
    cases d <;> simp only [strsD, reduceCtorEq] at e
    case str b =>
      cases q : strsD ds with
      | none => rw [q] at e; cases e
      | some cs =>
        rw [q] at e
        cases e
        cases h
        rw [strsD_vs q r]
        rfl
theorem RpA.strs : ∀ (ns : List Str), RpA K F μ (ns.map V.str) (ns.map D.str)
  | [] => .nil
  | n :: ns => .cons (.str n) (RpA.strs ns)
def isS : D → Bool
  | .str _ => true
  | _ => false
end
section
variable {X : Cx} {W : WX} {a b e : Expr} {fa fb f : Fe} {pos apos : Pos}
def eM1 (g : D → D → Option Sl) (fa fb : Fe) : Fe := fun δ S => (rd fa δ S).bind fun x S => if isS x = true then (rd fb δ S).bind fun y S => lift (g x y) S else .st
theorem tM1_of {r : V → List V → Hp → VK → Prop} {g : D → D → Option Sl} {K : PySem.W.Frag} (hg : G2 K (fun x y H Q => r x [y] H Q) g) {σ : L2.St} {H : Hp} {Q : VK} (h : wE K W (eM1 g fa fb) σ H Q) : tM1 r (wE K W fa) (wE K W fb) σ H Q := by
  obtain ⟨B, F, μ, S, δ, hs, ho⟩ := h
  refine wE_rd hs ho fun x S1 F1 μ1 H1 v t1 h1 v1 o1 => ?_
  cases x <;> simp only [isS, if_true, Bool.false_eq_true, if_false] at o1
  case str z =>
    refine ⟨⟨z, (v1.rr h1).str⟩, wE_rd h1 o1 fun y S2 F2 μ2 H2 u t2 h2 v2 o2 => ?_⟩
    cases e : g (.str z) y with
    | none => rw [e] at o2; exact o2.elim
    | some s =>
      rw [e] at o2
      exact hg h2.ok ((v1.go t2).rr h2) (v2.rr h2) e fun F3 μ3 H3 w t3 o3 r3 => o2 F3 μ3 H3 w t3 o3 r3.of_nil
  all_goals exact (show False from o1).elim
theorem g_join {K : PySem.W.Frag} : G2 K (fun x y H Q => ∃ a p, ∃ ys : List Str, x = .str a ∧ [y] = [.ref p] ∧ (SqL K H p (ys.map V.str) ∨ SqT K H p (ys.map V.str)) ∧
      (ys.map (·.length)).sum + ys.length * a.length ≤ 16777216 ∧ Q (.str (Txt.join a ys)) H) joinS := by
  intro F μ S H x y dx dy s Q o rx ry e k
  unfold joinS at e
  split at e
  · rename_i z xs
    have hx := rx.str; subst hx
    split at e
    · rename_i ys q
      split at e
      · rename_i c
        cases e
        obtain ⟨p, vs, rfl, hp, r⟩ := ry.lst o.sub
        exact ⟨z, p, ys, rfl, rfl, .inl (by rw [← strsD_vs q r]; exact SqL.of hp), c, end_pl o (fun _ _ => .str _) k⟩
      · cases e
    · cases e
  · rename_i z xs
    have hx := rx.str; subst hx
    split at e
    · rename_i ys q
      split at e
      · rename_i c
        cases e
        obtain ⟨p, vs, rfl, hp, r⟩ := ry.tup o.sub
        exact ⟨z, p, ys, rfl, rfl, .inr (by rw [← strsD_vs q r]; exact hp), c, end_pl o (fun _ _ => .str _) k⟩
      · cases e
    · cases e
  · cases e
theorem se_join (ha : SE X W a fa) (hb : SE X W b fb) (hs : starEach [b] X.env = [(false, eval b X.env)] := by rfl) (hbase : attributeBase a "join" X.env (eval a X.env) = eval a X.env := by rfl) (hline : (apos.endLine == pos.line) = true := by rfl) :
    SE X W (.Call (.Attribute a "join" apos) [b] [] pos) (eM1 joinS fa fb) := PE.imp (pe_join ha hb hs hbase hline) fun _ _ _ => tM1_of g_join
theorem g_split {K : PySem.W.Frag} : G2 K (fun x y H Q => ∃ a b, x = .str a ∧ [y] = [.str b] ∧ (b.length == 0) = false ∧ a.length + 2 ≤ sizeLine ∧ rNewStrs (Txt.split a b) H Q) splitS := by
  intro F μ S H x y dx dy s Q o rx ry e k
  cases dx <;> cases dy <;> simp only [splitS, reduceCtorEq] at e
  case str.str z u =>
    have hx := rx.str; subst hx
    have hy := ry.str; subst hy
    split at e
    · rename_i c
      cases e
      exact ⟨z, u, rfl, rfl, c.1, Nat.le_trans (Nat.add_le_add_right c.2 2) (by decide), fun p hp => end_own o (RpA.strs _) hp k⟩
    · cases e
theorem se_split (ha : SE X W a fa) (hb : SE X W b fb) (hs : starEach [b] X.env = [(false, eval b X.env)] := by rfl) (hbase : attributeBase a "split" X.env (eval a X.env) = eval a X.env := by rfl) (hline : (apos.endLine == pos.line) = true := by rfl) :
    SE X W (.Call (.Attribute a "split" apos) [b] [] pos) (eM1 splitS fa fb) := PE.imp (pe_split ha hb hs hbase hline) fun _ _ _ => tM1_of g_split
theorem g_rmp {K : PySem.W.Frag} : G2 K (fun x y H Q => ∃ a b, x = .str a ∧ [y] = [.str b] ∧ a.length ≤ sizeLine ∧ Q (.str (Txt.removeprefix a b)) H) rmpS := by
  intro F μ S H x y dx dy s Q o rx ry e k
  cases dx <;> cases dy <;> simp only [rmpS, reduceCtorEq] at e
  case str.str z u =>
    have hx := rx.str; subst hx
    have hy := ry.str; subst hy
    split at e
    · rename_i c
      cases e
      exact ⟨z, u, rfl, rfl, cap_le c, end_pl o (fun _ _ => .str _) k⟩
    · cases e
def intS' : List D → Option Sl
  | [.str x] => if x.length ≤ 640 then (PySem.intText? x).map fun n => .pl (.int n) else none
  | ds => intS ds
theorem call_intAny {X : Cx} : CallR X (.type "int") (fun xs H Q => ((∃ i, xs = [.int i] ∧ Q (.int i) H) ∨ ∃ k, xs = [.bl k] ∧ Q (.int (if k then 1 else 0)) H) ∨ (∃ a n, xs = [.str a] ∧ PySem.intText? a = some n ∧ a.length ≤ 640 ∧ Q (.int n) H)) := by
  intro pins s σ H xs us Q I rs h
  rcases h with h | h
  · exact call_int1 pins s σ H xs us Q I rs h
  · exact call_int_str pins s σ H xs us Q I rs h
theorem g_int' {K : PySem.W.Frag} : GC K (fun xs H Q => ((∃ i, xs = [.int i] ∧ Q (.int i) H) ∨ ∃ k, xs = [.bl k] ∧ Q (.int (if k then 1 else 0)) H) ∨ (∃ a n, xs = [.str a] ∧ PySem.intText? a = some n ∧ a.length ≤ 640 ∧ Q (.int n) H)) intS' := by
  intro F μ S H vs ds s Q o r e k
  unfold intS' at e
  split at e
  · split at e
    · rename_i c
      obtain ⟨v, rfl, r1⟩ := rrs1 r
      have := r1.str; subst this
      cases q : PySem.intText? _ with
      | none => rw [q] at e; cases e
      | some n =>
        rw [q] at e
        cases e
        exact .inr ⟨_, n, rfl, q, c, end_pl o (fun _ _ => .int _) k⟩
    · cases e
  · exact .inl (g_int o r e k)
end
def eRev (f : Fe) : Fe := fun δ S => (rd f δ S).bind fun d S => match d with
  | .lst xs => .ok (.own xs.reverse) S
  | _ => .st
def sPar (i j : Nat) (fa fb : Fe) : Fs := fun δ S => (fA [fa, fb] δ S).bind fun ss S => match plA ss with
  | some [a, b] => if i < δ.length ∧ j < δ.length then .ok (.nx ((δ.set i (.pl a)).set j (.pl b))) S else .st
  | _ => .st
section
variable {X : Cx} {W : WX} {a b e : Expr} {fa fb f : Fe} {pos apos : Pos}
theorem se_rev {k : Nat} {p1 p2 p3 : Pos} (he : SE X W e f) : SE X W (.Subscript e (.Slice none none (some (.UnaryOp .USub (.Constant (.int 1) k p1) p2)) p3) pos) (eRev f) := PE.imp (pe_revL he) fun σ H Q ⟨B, F, μ, S, δ, hs, ho⟩ => by
  refine wE_rd hs ho fun d S1 F1 μ1 H1 v t1 h1 v1 o1 => ?_
  cases d <;> simp only at o1
  case lst xs =>
    obtain ⟨p, vs, rfl, hp, r⟩ := (v1.rr h1).lst h1.ok.sub
    exact ⟨p, vs, rfl, SqL.of hp, fun q hq => end_own h1.ok r.rev hq fun F2 μ2 H2 w t2 o2 r2 => o1 F2 μ2 H2 w t2 o2 r2.of_nil⟩
  all_goals exact o1.elim
theorem ss_par {i j : Nat} {x y : Str} {px py pt : Pos} {kt k2 pt2} (hc : X.calm = true) (hN : X.N.Nodup) (hi : X.N[i]? = some x) (hj : X.N[j]? = some y) (hij : i ≠ j)
    (hx : X.env.scope.names.lookup x = some .local) (hy : X.env.scope.names.lookup y = some .local) (ha : SA X W [a, b] (fA [fa, fb]))
    (hw : swappedStores [.Tuple [.Name x px, .Name y py] kt pt] (.Tuple [a, b] k2 pt2) X.env = pure (some [x, y]) := by rfl)
    (hs : swapsWithSole [.Tuple [.Name x px, .Name y py] kt pt] (.Tuple [a, b] k2 pt2) pos.line X.env = pure false := by rfl) :
    SS X W (.Assign [.Tuple [.Name x px, .Name y py] kt pt] (.Tuple [a, b] k2 pt2) pos) (sPar i j fa fb) := PS.imp (ps_par hc hN hi hj hij hx hy ha hw hs) fun D σ H ⟨B, F, μ, S, δ, hs, ho⟩ =>
  wA_S hs ho fun ss S1 F1 μ1 H1 vs t h1 r o1 => by
    cases q : plA ss with
    | none => rw [q] at o1; exact o1.elim
    | some ds =>
      rw [q] at o1
      have rr := plA_rp q r
      cases ds with
      | nil => exact (show False from o1).elim
      | cons d ds =>
        cases ds with
        | nil => exact (show False from o1).elim
        | cons d2 ds =>
          cases ds with
          | cons _ _ => exact (show False from o1).elim
          | nil =>
            cases rr with
            | cons r1 rr =>
              cases rr with
              | cons r2 rr =>
                cases rr
                dsimp only at o1
                by_cases c : i < δ.length ∧ j < δ.length
                · rw [if_pos c] at o1
                  exact ⟨_, _, rfl, o1 F1 μ1 _ H1 ((h1.putP c.1 r1).putP (by rw [List.length_set]; exact c.2) r2)⟩
                · rw [if_neg c] at o1
                  exact o1.elim
end
section
variable {X : Cx} {W : WX} {a b e : Expr} {fa : Fe} {pos : Pos} {ta : Ft}
theorem swp (h : SW X W e ta) : ST X W e ta := h.pt
theorem st_isN {j pos'} (h : SE X W a fa) : ST X W (.Compare a [.Is] [.Constant .none j pos'] pos) (tB' (eIsN false fa)) := PT.imp (pt_cmp (pc_isN h) rfl) fun σ H Q q => tB_of (fun σ H Q ⟨B, F, μ, S, δ, hs, ho⟩ =>
  wE_rd hs ho fun d S1 F1 μ1 H1 v t1 h1 v1 o1 => by rw [isNon_ok (v1.rr h1)]; exact o1.same h1.ok (by rw [Bool.false_xor]; exact .bl _)) q
theorem st_notN {j pos'} (h : SE X W a fa) : ST X W (.Compare a [.IsNot] [.Constant .none j pos'] pos) (tB' (eIsN true fa)) := PT.imp (pt_cmp (pc_notN h) rfl) fun σ H Q q => tB_of (fun σ H Q ⟨B, F, μ, S, δ, hs, ho⟩ =>
  wE_rd hs ho fun d S1 F1 μ1 H1 v t1 h1 v1 o1 => by rw [isNon_ok (v1.rr h1)]; exact o1.same h1.ok (by rw [Bool.true_xor]; exact .bl _)) q
end
end Gt
set_option Elab.async false
set_option linter.all false
set_option maxRecDepth 100000
namespace Gt
open PySem PySem.Spec PyProof.Rows L2 RZ
theorem meets_enum1 {v : Value} {o : Obj} {H : Heap → Prop} (B : PySem.Begins v o H) :
    Meets (Builtin.«enumerate.__new__» ⟨[.type "enumerate", v], []⟩) (fun _ R s => H s.heap ∧
      R (.ok (.ret (.ref (s.heap.push o).objs.size))) { s with heap := (s.heap.push o).push { cls := .type "enumerate", data := .fields #[.none, .bool false, .ref s.heap.objs.size, rawInt 0, .none, .none] } }) :=
  .of_wp fun prog w A R s h => by
    obtain ⟨hp, g, d, tk, os⟩ := s; obtain ⟨h1, h⟩ := h
    have hsub := sub_enumerate
    have q1 : ∀ {A' : Around} {E : Value → Shared → Prop} {Q : Value → Shared → Prop}, Q (.ref hp.objs.size) ⟨hp.push o, g, d, tk, os⟩ → wpAny (model prog w) A' (pyIter v) Q E ⟨hp, g, d, tk, os⟩ :=
      fun q => B.iter prog w _ _ ⟨hp, g, d, tk, os⟩ _ h1 q
    wp_walk using q1
    refine wpAny_stack_any fun st => wpAny_pure ?_
    split
    · rename_i c _ _ _ _ _
      cases (c == Value.type "enumerate")
      · wp_walk using q1
        exact ⟨_, rfl, h⟩
      · wp_walk using q1
        exact ⟨_, rfl, h⟩
    · wp_walk using q1
      exact ⟨_, rfl, h⟩
theorem enum1_begins {prog : Program} {w : World} {A : Around} {E : Value → Shared → Prop} {s : Shared} {v : Value} {o : Obj} {H : Heap → Prop} {Q : Value → Shared → Prop} (B : PySem.Begins v o H) (h1 : H s.heap)
    (h : ∀ h', IsEnum h' (s.heap.objs.size + 1) s.heap.objs.size 0 .none → h'.get? s.heap.objs.size = some o → h'.objs.size = s.heap.objs.size + 2 →
      (∀ b o, s.heap.get? b = some o → h'.get? b = some o) → Q (.ref (s.heap.objs.size + 1)) { s with heap := h' }) :
    wpAny (model prog w) A (call (.type "enumerate") [v]) Q E s := by
  refine callType_new F.called_enumerate (by decide) (F.typeCall_enumerate_1 _) (F.newCall_enumerate_1 _) (fun obj => F.args_object_init_2 obj _) F.entry_enumerate_new
    (meets_enum1 B) ⟨h1, ?_⟩
  have hz : (s.heap.push o).objs.size = s.heap.objs.size + 1 := Heap.size_push ..
  show _ ∧ _
  rw [hz]
  have he : IsEnum ((s.heap.push o).push { cls := .type "enumerate", data := .fields #[.none, .bool false, .ref s.heap.objs.size, rawInt 0, .none, .none] }) (s.heap.objs.size + 1) s.heap.objs.size 0 .none := by
    have := Heap.get?_push_size (s.heap.push o) (o := { cls := .type "enumerate", data := .fields #[.none, .bool false, .ref s.heap.objs.size, rawInt 0, .none, .none] }) rfl
    rw [hz] at this; exact this
  refine ⟨⟨_, he, rfl⟩, h _ he (Heap.get?_push_of_some _ (Heap.get?_push_size _ B.free)) (by rw [Heap.size_push, hz]) fun b o x => Heap.get?_push_of_some _ (Heap.get?_push_of_some _ x)⟩
def IteT (K : PySem.W.Frag) (a : Addr) : It :=
  ⟨fun i H => ∃ (xs : List V) (x : V), SqT K H a xs ∧ xs[i]? = some x, fun i H v H' => ∃ T x, v = .ref T ∧ H T = none ∧ H' = upd H T (.tup [.int (i : Nat), x]) ∧ ∀ xs, SqT K H a xs → xs[i]? = some x, fun i H => ∃ xs : List V, SqT K H a xs ∧ xs.length ≤ i⟩
theorem turn_enumT {P : Program} {w : World} {K : PySem.W.Frag} {elts : List Expr} {kk : Nat} {tpos : Pos} (a e it : Addr) :
    Turn P w K (.Tuple elts kk tpos) (IteT K a) [e, it] e (fun i h => (∃ old, IsEnum h e it ((i : Nat) : Int) old) ∧ h.IsTupleIter it a i ∧ e ≠ it) where
  mem := by simp
  obj := fun i h st b hb => by
    obtain ⟨⟨old, he⟩, ⟨o, ho, hc, hd⟩, _⟩ := st
    have e' : b = e ∨ b = it := by simpa using hb
    rcases e' with z | z
    · rw [z]; exact ⟨_, he, fun v q => nomatch q⟩
    · rw [z]; exact ⟨o, ho, fun v q => by rw [hd] at q; cases q⟩
  keep := fun i h h' st k => let ⟨⟨old, he⟩, hi, hne⟩ := st; ⟨⟨old, k e (by simp) _ he⟩, hi.at fun o q => k it (by simp) o q, hne⟩
  item := by
    intro X hP hw hK hc i pins s σ H E I hf st hg
    subst hP hw hK
    obtain ⟨⟨old, he⟩, hit, hne⟩ := st
    obtain ⟨xs, x, hq, hx⟩ := hg
    obtain ⟨its, rv, p, hz⟩ := I.tuple hq
    obtain ⟨u, hu, ru⟩ := rv.get hx
    have hel : e < s.heap.objs.size := Heap.lt_size he
    have hil : it < s.heap.objs.size := by obtain ⟨_, q, _⟩ := hit; exact Heap.lt_size q
    have hat : a ≠ it := fun z => by
      subst z
      obtain ⟨o1, h1, c1, _⟩ := hit
      obtain ⟨o2, h2, c2, _⟩ := p
      rw [h1] at h2; cases h2
      rw [c1] at c2; simp at c2
    have hae : e ≠ a := fun z => by
      subst z
      obtain ⟨o2, h2, c2, _⟩ := p
      have he2 : s.heap.get? e = some _ := he
      rw [he2] at h2; cases h2
      simp at c2
    have D := Draws.tuple (prog := X.prog) (w := X.w) (A := X.A.in1) (I.ok.hd hc) it a hat its.toArray
    have hlt : i < its.toArray.size := by
      have := (List.getElem?_eq_some_iff.mp hu).1
      simpa using this
    refine wpAny_pyNext_enum_itemD D he ⟨hit, p⟩ hlt hne (by intro z; rcases List.mem_cons.mp z with z | z; exact hne z; rcases List.mem_cons.mp z with z | z; exact hae z; cases z) fun y h' tk hy ho hst' hT hsz hk => ?_
    have ey : y = u := by
      have : its.toArray[i]? = some u := by simpa using hu
      rw [this] at hy; cases hy; rfl
    subst ey
    refine ⟨_, rfl, wpAny_letOwnedTupleGo_enum (s := { s with heap := h', toks := tk + 1 }) ho fun h'' he' sb => ?_⟩
    have hT2 : h''.get? s.heap.objs.size = some { cls := .type "tuple", data := .seq #[.int i tk, y] } := (sb.2 _ (Nat.ne_of_gt hel)).trans hT
    have new : ObjOk X.prog X.w (upd H s.heap.objs.size (.tup [.int (i : Nat), x])) h'' s.heap.objs.size (.tup [.int (i : Nat), x]) :=
      ⟨by show 2 ≤ sizeLine; decide, [.int i tk, y], .cons ⟨_, rfl⟩ (.cons ru .nil), ⟨_, hT2, rfl, _, rfl⟩⟩
    have I1 : Inv X pins σ (upd H s.heap.objs.size (.tup [.int (i : Nat), x])) { s with heap := h'', toks := tk + 1 } :=
      I.turnedNew (ch := [e, it]) (fun b ob hb q => (sb.2 b (fun z => hb (by simp [z]))).trans (hk b ob (fun z => hb (by simp [z])) (fun z => hb (by simp [z])) q)) hf (Nat.le_refl _) new
    refine ⟨.ref s.heap.objs.size, _, I1, rfl, ⟨_, x, rfl, I.hok.fresh (Nat.le_refl _), rfl, fun ys hy => by rw [I.tuple_inj hy hq]; exact hx⟩, ⟨⟨y, ?_⟩, hst'.1.at fun o q => (sb.2 it (Ne.symm hne)).trans q, hne⟩, fun b hb => ?_⟩
    · have e1 : ((i + 1 : Nat) : Int) = (i : Int) + 1 := by omega
      rw [e1]; exact he'
    · have hb' : b < s.heap.objs.size := by
        have e' : b = e ∨ b = it := by simpa using hb
        rcases e' with z | z
        · rw [z]; exact hel
        · rw [z]; exact hil
      rw [upd_ne (Nat.ne_of_lt hb')]
      exact (hf b hb).1
  done := by
    intro X hP hw hK hc i pins s σ H E I hf st hg
    subst hP hw hK
    obtain ⟨⟨old, he⟩, hit, hne⟩ := st
    obtain ⟨xs, hq, hx⟩ := hg
    obtain ⟨its, rv, p, hz⟩ := I.tuple hq
    obtain ⟨f0, f1, f2, f3, f4, f5⟩ := hf it (by simp)
    have hl := rv.length
    have hT : s.TypeIs (.ref e) "enumerate" := ⟨_, he, rfl⟩
    unfold pyNext
    refine wpAny_bind (wpAny_attempt (wpAny_callSpecial?_slot (name := Str.ofString "__next__") hT F.slot_enumerate_next
      (wpAny_call_entry F.slot_enumerate_next hT F.entry_enumerate_next ?_ (F.args_enumerate_next_1 _))))
    show wpAny _ _ (field (.ref e) 2 >>= _) _ _ _
    refine wpAny_bind (wpAny_field he rfl (x := .ref it) rfl ?_)
    refine wpAny_bind (wpAny_nextOf_tuple_end (I.ok.hd hc) hit p (by simp; omega) fun h' x eb hx' => ?_)
    obtain ⟨o, ho, hc'⟩ := hx'
    refine wpAny_bind (wpAny_isInstance (T := "StopIteration") (b := true) ⟨o, ho, hc'⟩ isSubtype_stop ?_)
    exact wpAny_pure ⟨rfl, I.turned (t' := s.toks) (fun b o hb q => eb b o hb q) f0 f1 f3 f4 f5⟩
  self := fun A i s Q E st h => let ⟨⟨_, he⟩, _⟩ := st; wpAny_pyIter_enum he h
def rngD (lo hi : Int) : List D := (List.range (hi - lo).toNat).map fun i => .int (lo + (i : Nat))
def sm62 (i : Int) : Bool := decide (-1000000000000 ≤ i ∧ i ≤ 1000000000000)
def iRng1 (fs : List Fe) : Fi := fun δ S => (fA fs δ S).bind fun ss S => match ss with
  | [.pl (.int j)] => if sm62 j then .ok (rngD 0 j) S else .st
  | _ => .st
def iRng2 (fs : List Fe) : Fi := fun δ S => (fA fs δ S).bind fun ss S => match ss with
  | [.pl (.int i), .pl (.int j)] => if sm62 i && sm62 j then .ok (rngD i j) S else .st
  | _ => .st
def enumD (k : Nat) : List D → List D
  | [] => []
  | x :: xs => .tup [.int (k : Nat), x] :: enumD (k + 1) xs
def zipD : List D → List D → List D
  | x :: xs, y :: ys => .tup [x, y] :: zipD xs ys
  | _, _ => []
def iEnu (fs : List Fe) : Fi := fun δ S => (fA fs δ S).bind fun ss S => match plA ss with
  | some [.lst xs] => .ok (enumD 0 xs) S
  | _ => .st
def iZip (fs : List Fe) : Fi := fun δ S => (fA fs δ S).bind fun ss S => match plA ss with
  | some [.lst xs, .lst ys] => .ok (zipD xs ys) S
  | some [.tup xs, .tup ys] => .ok (zipD xs ys) S
  | _ => .st
theorem enumD_get : ∀ (xs : List D) (k i : Nat), (enumD k xs)[i]? = xs[i]?.map fun x => .tup [.int ((k + i : Nat) : Int), x]
  | [], _, _ => by simp [enumD]
  | x :: xs, k, 0 => by simp [enumD]
  | x :: xs, k, i + 1 => by
    rw [enumD, List.getElem?_cons_succ, List.getElem?_cons_succ, enumD_get xs (k + 1) i]
    have : k + 1 + i = k + (i + 1) := by omega
    rw [this]
theorem enumD_len : ∀ (xs : List D) (k : Nat), (enumD k xs).length = xs.length
  | [], _ => rfl
  | x :: xs, k => by rw [enumD, List.length_cons, List.length_cons, enumD_len xs (k + 1)]
theorem zipD_get : ∀ (xs ys : List D) (i : Nat) (d : D), (zipD xs ys)[i]? = some d → ∃ x y, xs[i]? = some x ∧ ys[i]? = some y ∧ d = .tup [x, y]
  | [], _, _, _, h => by simp [zipD] at h
  | _ :: _, [], _, _, h => by simp [zipD] at h
  | x :: xs, y :: ys, 0, d, h => by simp [zipD] at h; exact ⟨x, y, rfl, rfl, h.symm⟩
  | x :: xs, y :: ys, i + 1, d, h => by
    rw [zipD, List.getElem?_cons_succ] at h
    simpa using zipD_get xs ys i d h
theorem zipD_end : ∀ (xs ys : List D) (i : Nat), (zipD xs ys).length ≤ i → xs.length ≤ i ∨ ys.length ≤ i
  | [], _, _, _ => .inl (Nat.zero_le _)
  | _ :: _, [], _, _ => .inr (Nat.zero_le _)
  | x :: xs, y :: ys, 0, h => by simp [zipD] at h
  | x :: xs, y :: ys, i + 1, h => by
    have := zipD_end xs ys i (by simpa [zipD] using h)
    rcases this with z | z
    · exact .inl (by simpa using z)
    · exact .inr (by simpa using z)
section
variable {K : PySem.W.Frag} {F H : Hp} {μ : List Addr} {S : Ms}
theorem walk_rng {lo hi : Int} : Walk K (Itr lo (hi - lo).toNat) (rngD lo hi) fun _ _ _ => True where
  go := fun {F μ S H k d} o _ e => by
    unfold rngD at e
    rw [List.getElem?_map] at e
    have hk : k < (hi - lo).toNat := by
      by_cases c : k < (hi - lo).toNat
      · exact c
      · rw [List.getElem?_eq_none (by rw [List.length_range]; omega)] at e
        cases e
    rw [List.getElem?_range hk] at e
    cases e
    exact ⟨hk, fun x H' ⟨e1, e2⟩ => by subst e1 e2; exact ⟨F, .refl _ _ _, o, .int _⟩⟩
  stop := fun {F μ S H k} o _ hk => by
    show (hi - lo).toNat ≤ k
    unfold rngD at hk
    simpa using hk
theorem walk_enum {a : Addr} {xs : List D} : Walk K (Ite K a) (enumD 0 xs) fun F μ H => ∃ vs, H a = some (.lst vs) ∧ RpA K F μ vs xs where
  go := fun {F μ S H k d} o ⟨vs, h, r⟩ e => by
    rw [enumD_get] at e
    cases q : xs[k]? with
    | none => rw [q] at e; cases e
    | some x =>
      rw [q] at e
      cases e
      obtain ⟨v, hv, rv⟩ := r.getD q
      refine ⟨⟨vs, v, SqL.of h, hv⟩, fun y H' ⟨T, z, e1, e2, e3, e4⟩ => ?_⟩
      subst e1 e3
      have := e4 vs (SqL.of h)
      rw [hv] at this
      cases this
      have s := Sub.new (o := HO.tup [.int (k : Nat), v]) (o.free e2).1
      rw [Nat.zero_add]
      exact ⟨_, Stp.newF o e2, o.newF e2, .tup upd_same (.cons (.int _) (.cons (rv.mono s (.refl μ)) .nil))⟩
  stop := fun {F μ S H k} o ⟨vs, h, r⟩ hk => ⟨vs, SqL.of h, by rw [r.len]; rw [enumD_len] at hk; exact hk⟩
theorem walk_zip {a b : Addr} {xs ys : List D} : Walk K (Itz K a b) (zipD xs ys) fun F μ H => (∃ vs, H a = some (.lst vs) ∧ RpA K F μ vs xs) ∧ ∃ ws, H b = some (.lst ws) ∧ RpA K F μ ws ys where
  go := fun {F μ S H k d} o ⟨⟨vs, h, r⟩, ws, h2, r2⟩ e => by
    obtain ⟨x, y, e1, e2, rfl⟩ := zipD_get _ _ _ _ e
    obtain ⟨v, hv, rv⟩ := r.getD e1
    obtain ⟨w, hw, rw_⟩ := r2.getD e2
    refine ⟨⟨vs, ws, v, w, SqL.of h, SqL.of h2, hv, hw⟩, fun z H' ⟨T, x', y', e1, e2, e3, e4, e5⟩ => ?_⟩
    subst e1 e3
    have := e4 vs (SqL.of h)
    rw [hv] at this
    cases this
    have := e5 ws (SqL.of h2)
    rw [hw] at this
    cases this
    have s := Sub.new (o := HO.tup [v, w]) (o.free e2).1
    exact ⟨_, Stp.newF o e2, o.newF e2, .tup upd_same (.cons (rv.mono s (.refl μ)) (.cons (rw_.mono s (.refl μ)) .nil))⟩
  stop := fun {F μ S H k} o ⟨⟨vs, h, r⟩, ws, h2, r2⟩ hk => ⟨vs, ws, SqL.of h, SqL.of h2, by rw [r.len, r2.len]; exact zipD_end _ _ _ hk⟩
theorem walk_zipT {a b : Addr} {xs ys : List D} : Walk K (ItzT K a b) (zipD xs ys) fun F μ H => (∃ vs, SqT K H a vs ∧ RpA K F μ vs xs) ∧ ∃ ws, SqT K H b ws ∧ RpA K F μ ws ys where
  go := fun {F μ S H k d} o ⟨⟨vs, h, r⟩, ws, h2, r2⟩ e => by
    obtain ⟨x, y, e1, e2, rfl⟩ := zipD_get _ _ _ _ e
    obtain ⟨v, hv, rv⟩ := r.getD e1
    obtain ⟨w, hw, rw_⟩ := r2.getD e2
    refine ⟨⟨vs, ws, v, w, h, h2, hv, hw⟩, fun z H' ⟨T, x', y', e1, e2, e3, e4, e5⟩ => ?_⟩
    subst e1 e3
    have := e4 vs h
    rw [hv] at this
    cases this
    have := e5 ws h2
    rw [hw] at this
    cases this
    have s := Sub.new (o := HO.tup [v, w]) (o.free e2).1
    exact ⟨_, Stp.newF o e2, o.newF e2, .tup upd_same (.cons (rv.mono s (.refl μ)) (.cons (rw_.mono s (.refl μ)) .nil))⟩
  stop := fun {F μ S H k} o ⟨⟨vs, h, r⟩, ws, h2, r2⟩ hk => ⟨vs, ws, h, h2, by rw [r.len, r2.len]; exact zipD_end _ _ _ hk⟩
end
section
variable {X : Cx} {W : WX} {a b e tg : Expr} {f fa fb : Fe} {pos p tpos : Pos} {keep : Option (List Nat)} {elts : List Expr} {kk : Nat}
theorem wA_I {K : PySem.W.Frag} {B : Bs} {F H : Hp} {μ : List Addr} {S : Ms} {σ : L2.St} {δ : Evm} {R : It → Hp → Prop} {f : Fa} {k : List Sl → Ms → Rs (List D)} {Q : List V → Hp → Prop} (hs : StR K B F μ S δ σ H) (ho : OI K W keep B F μ H σ δ R ((f δ S).bind k))
    (hk : ∀ ss S1 F1 μ1 H1 vs, Stp F μ H F1 μ1 H1 → StR K B F1 μ1 S1 δ σ H1 → VAs K σ δ F1 μ1 vs ss → OI K W keep B F1 μ1 H1 σ δ R (k ss S1) → Q vs H1) : wA K W f σ H Q :=
  wA_bind (G := fun F μ H r => OI K W keep B F μ H σ δ R r) hs (fun _ _ h => h) (fun h => h) (fun _ _ _ _ t h => OI.go t h) ho hk
theorem sm62_iff {i : Int} (h : sm62 i = true) : -(2 ^ 62) ≤ i ∧ i < 2 ^ 62 := by
  have := of_decide_eq_true h
  have e : (2 : Int) ^ 62 = 4611686018427387904 := by decide
  rw [e]
  omega
theorem si_rng1 (hg : Gl X "range") (hm : X.mg "range" = none) (ha : SA X W [a] (fA [f])) (hs : starEach [a] X.env = [(false, eval a X.env)] := by rfl) : SI X W keep tg (.Call (.Name "range" p) [a] [] pos) (iRng1 [f]) :=
  PI.imp (pi_range1 hg hm ha hs) fun σ H R ⟨B, F, μ, S, δ, hs, ho⟩ => wA_I hs ho fun ss S1 F1 μ1 H1 vs t1 h1 r o1 => by
    split at o1
    · rename_i j
      cases r with
      | cons r rr =>
        cases rr
        cases (show Rp _ _ _ _ _ from r)
        split at o1
        · rename_i c
          obtain ⟨c1, c2⟩ := sm62_iff c
          refine ⟨j, rfl, c1, c2, ?_⟩
          have w := walk_rng (K := X.K) (lo := 0) (hi := j)
          rw [Int.sub_zero] at w
          exact o1 F1 μ1 H1 _ _ (.refl _ _ _) h1.ok w fun _ _ _ _ _ _ _ _ _ _ _ _ => trivial
        · exact (show False from o1).elim
    · exact (show False from o1).elim
theorem si_rng2 (hg : Gl X "range") (hm : X.mg "range" = none) (ha : SA X W [a, b] (fA [fa, fb])) (hs : starEach [a, b] X.env = [(false, eval a X.env), (false, eval b X.env)] := by rfl) (hs2 : starEach [b] X.env = [(false, eval b X.env)] := by rfl) : SI X W keep tg (.Call (.Name "range" p) [a, b] [] pos) (iRng2 [fa, fb]) :=
  PI.imp (pi_range2 hg hm ha hs hs2) fun σ H R ⟨B, F, μ, S, δ, hs, ho⟩ => wA_I hs ho fun ss S1 F1 μ1 H1 vs t1 h1 r o1 => by
    split at o1
    · rename_i i j
      cases r with
      | cons r rr =>
        cases rr with
        | cons r2 rr =>
          cases rr
          cases (show Rp _ _ _ _ _ from r)
          cases (show Rp _ _ _ _ _ from r2)
          split at o1
          · rename_i c
            rw [Bool.and_eq_true] at c
            obtain ⟨c1, c2⟩ := sm62_iff c.1
            obtain ⟨c3, c4⟩ := sm62_iff c.2
            exact ⟨i, j, rfl, ⟨c1, c2, c3, c4⟩, o1 F1 μ1 H1 _ _ (.refl _ _ _) h1.ok walk_rng fun _ _ _ _ _ _ _ _ _ _ _ _ => trivial⟩
          · exact (show False from o1).elim
    · exact (show False from o1).elim
def iEnumA (K : PySem.W.Frag) (ta : TA) : TI := fun σ H R => ta σ H fun vs H1 => ∃ a, vs = [.ref a] ∧ ((∃ xs, SqL K H1 a xs ∧ R (Ite K a) H1) ∨ ∃ xs, SqT K H1 a xs ∧ R (IteT K a) H1)
theorem pi_enumA {X : Cx} {e : Expr} {ta : TA} {p pos tpos : Pos} {elts : List Expr} {kk : Nat} (hg : Gl X "enumerate") (hm : X.mg "enumerate" = none) (ha : PA X [e] ta) (hs : starEach [e] X.env = [(false, eval e X.env)] := by rfl) :
    PI X (.Tuple elts kk tpos) (.Call (.Name "enumerate" p) [e] [] pos) (iEnumA X.K ta) := by
  refine ⟨fun pins s σ H R I h => ?_⟩
  refine Call_ (ld_blt I hg hm boot_enumerate (PyProof.Rows.callWith_type1 (thn (ha.run pos pins s σ H _ I h) fun us s1 ⟨vs, H1, I1, r1, q1⟩ => ?_) hs rfl))
  obtain ⟨a, ex, q1⟩ := q1
  subst ex
  cases r1 with
  | cons r rr =>
    cases rr
    cases r
    have fin : ∀ (J : It) (h' : Heap) (St : Nat → Heap → Prop), Turn X.prog X.w X.K (.Tuple elts kk tpos) J [s1.heap.objs.size + 1, s1.heap.objs.size] (s1.heap.objs.size + 1) St → St 0 h' → IsEnum h' (s1.heap.objs.size + 1) s1.heap.objs.size 0 .none →
        (∀ b o, s1.heap.get? b = some o → h'.get? b = some o) → R J H1 → wpAny (model X.prog X.w) X.A (pyIter (.ref (s1.heap.objs.size + 1))) (PIE X pins σ (.Tuple elts kk tpos) R) X.xe { s1 with heap := h' } := fun J h' St tn st he hk q => by
      refine wpAny_pyIter_enum he ?_
      have I2 : Inv X pins σ H1 { s1 with heap := h' } := I1.kept (t' := s1.toks) hk
      refine ⟨s1.heap.objs.size + 1, [s1.heap.objs.size + 1, s1.heap.objs.size], _, _, H1, rfl, I2, tn, st, fun b hb => ?_, q⟩
      have e' : b = s1.heap.objs.size + 1 ∨ b = s1.heap.objs.size := by simpa using hb
      have hle : s1.heap.objs.size ≤ b := by
        rcases e' with z | z
        · rw [z]; exact Nat.le_succ _
        · rw [z]; exact Nat.le_refl _
      exact I1.fpOk hle (I1.hok.fresh hle)
    rcases q1 with ⟨xs, hq, q⟩ | ⟨xs, hq, q⟩
    · obtain ⟨its, rv, p', hz⟩ := I1.list hq
      exact call_enumerate_list p'.isList fun h' he hit hsz hk => fin _ h' _ (turn_enum a (s1.heap.objs.size + 1) s1.heap.objs.size) ⟨⟨.none, he⟩, hit, Nat.succ_ne_self _⟩ he hk q
    · obtain ⟨its, rv, p', hz⟩ := I1.tuple hq
      exact enum1_begins (begins_tuple a its.toArray) (show s1.heap.IsTuple a its.toArray from p') fun h' he ho hsz hk => fin _ h' _ (turn_enumT a (s1.heap.objs.size + 1) s1.heap.objs.size) ⟨⟨.none, he⟩, ⟨_, ho, rfl, rfl⟩, Nat.succ_ne_self _⟩ he hk q
theorem walk_enumT {K : PySem.W.Frag} {a : Addr} {xs : List D} : Walk K (IteT K a) (enumD 0 xs) fun F μ H => ∃ vs, SqT K H a vs ∧ RpA K F μ vs xs where
  go := fun {F μ S H k d} o ⟨vs, h, r⟩ e => by
    rw [enumD_get] at e
    cases q : xs[k]? with
    | none => rw [q] at e; cases e
    | some x =>
      rw [q] at e
      cases e
      obtain ⟨v, hv, rv⟩ := r.getD q
      refine ⟨⟨vs, v, h, hv⟩, fun y H' ⟨T, z, e1, e2, e3, e4⟩ => ?_⟩
      subst e1 e3
      have := e4 vs h
      rw [hv] at this
      cases this
      have s := Sub.new (o := HO.tup [.int (k : Nat), v]) (o.free e2).1
      rw [Nat.zero_add]
      exact ⟨_, Stp.newF o e2, o.newF e2, .tup upd_same (.cons (.int _) (.cons (rv.mono s (.refl μ)) .nil))⟩
  stop := fun {F μ S H k} o ⟨vs, h, r⟩ hk => ⟨vs, h, by rw [r.len]; rw [enumD_len] at hk; exact hk⟩
def iEnuV (i : Nat) : Fi := fun δ S => match δ[i]? with
  | some (.bor xs) => .ok (enumD 0 xs) S
  | some (.pl (.lst xs)) => .ok (enumD 0 xs) S
  | some (.pl (.tup xs)) => .ok (enumD 0 xs) S
  | _ => .st
theorem si_enumV {i : Nat} {x : Str} {px : Pos} (hg : Gl X "enumerate") (hm : X.mg "enumerate" = none) (h : PE X (.Name x px) (tVar i)) (hs : starEach [.Name x px] X.env = (false, eval (.Name x px) X.env) :: starEach [] X.env := by rfl) (hs2 : starEach [.Name x px] X.env = [(false, eval (.Name x px) X.env)] := by rfl) : SI X W keep (.Tuple elts kk tpos) (.Call (.Name "enumerate" p) [.Name x px] [] pos) (iEnuV i) :=
  PI.imp (pi_enumA hg hm (pa_cons h pa_nil hs) hs2) fun σ H R ⟨B, F, μ, S, δ, hs, ho⟩ => by
    unfold iEnuV at ho
    cases e : δ[i]? with
    | none => rw [e] at ho; exact ho.elim
    | some s =>
      rw [e] at ho
      have q := hs.sl i s e
      have hl := hs.at e
      have at_ : ∀ v, σ[i]?.join = some v → σ[i]? = some (some v) := fun v z => by
        rw [List.getElem?_eq_getElem hl] at z ⊢
        exact congrArg some z
      cases s with
      | no => exact ho.elim
      | oin _ _ => exact ho.elim
      | own _ => exact ho.elim
      | od _ _ => exact ho.elim
      | pl d =>
        obtain ⟨v, z, r⟩ := q
        cases d <;> first | exact ho.elim | skip
        case lst ds =>
          obtain ⟨p, ws, rfl, hp, r2⟩ := r.lst_inv
          exact ⟨_, at_ _ z, p, rfl, .inl ⟨ws, SqL.of (hs.ok.sub _ _ hp), ho F μ H _ _ (.refl _ _ _) hs.ok walk_enum fun A' α' F2 μ2 S2 δ2 σ2 H2 h2 s m _ => ⟨ws, h2.ok.sub _ _ (s _ _ hp), r2.mono s m⟩⟩⟩
        case tup ds =>
          obtain ⟨p, ws, rfl, hp, r2⟩ := r.tup_inv
          exact ⟨_, at_ _ z, p, rfl, .inr ⟨ws, sub_t hs.ok.sub hp, ho F μ H _ _ (.refl _ _ _) hs.ok walk_enumT fun A' α' F2 μ2 S2 δ2 σ2 H2 h2 s m _ => ⟨ws, sub_t h2.ok.sub (sub_t s hp), r2.mono s m⟩⟩⟩
      | bor ds =>
        obtain ⟨p, vs, z, h, r, m⟩ := q
        have hH := hs.st.kp _ _ h m
        exact ⟨_, at_ _ z, p, rfl, .inl ⟨vs, SqL.of hH, ho F μ H _ _ (.refl _ _ _) hs.ok walk_enum fun A' α' F2 μ2 S2 δ2 σ2 H2 h2 s mm _ => ⟨vs, h2.st.kp _ _ h m, r.mono s mm⟩⟩⟩
theorem si_enum (hg : Gl X "enumerate") (hm : X.mg "enumerate" = none) (ha : SA X W [e] (fA [f])) (hs : starEach [e] X.env = [(false, eval e X.env)] := by rfl) : SI X W keep (.Tuple elts kk tpos) (.Call (.Name "enumerate" p) [e] [] pos) (iEnu [f]) :=
  PI.imp (pi_enum hg hm ha hs) fun σ H R ⟨B, F, μ, S, δ, hs, ho⟩ => wA_I hs ho fun ss S1 F1 μ1 H1 vs t1 h1 r o1 => by
    split at o1
    · rename_i xs q
      cases plA_rp q r with
      | cons r1 rr =>
        cases rr
        obtain ⟨p, ws, rfl, hp, r2⟩ := r1.lst_inv
        exact ⟨p, ws, rfl, SqL.of (h1.ok.sub _ _ hp), o1 F1 μ1 H1 _ _ (.refl _ _ _) h1.ok walk_enum fun A' α' F2 μ2 S2 δ2 σ2 H2 h2 s m _ => ⟨ws, h2.ok.sub _ _ (s _ _ hp), r2.mono s m⟩⟩
    · exact (show False from o1).elim
theorem si_zip (hg : Gl X "zip") (hm : X.mg "zip" = none) (ha : SA X W [a, b] (fA [fa, fb])) (hs : starEach [a, b] X.env = (false, eval a X.env) :: starEach [b] X.env := by rfl) (hpl : (backTo pos (starEach [b] X.env)).any (·.1) = false := by rfl) : SI X W keep (.Tuple elts kk tpos) (.Call (.Name "zip" p) [a, b] [] pos) (iZip [fa, fb]) :=
  PI.imp (pi_zipA hg hm ha hs hpl) fun σ H R ⟨B, F, μ, S, δ, hs, ho⟩ => wA_I hs ho fun ss S1 F1 μ1 H1 vs t1 h1 r o1 => by
    split at o1
    · rename_i xs ys q
      cases plA_rp q r with
      | cons r1 rr =>
        cases rr with
        | cons r2 rr =>
          cases rr
          obtain ⟨p, ws, rfl, hp, r3⟩ := r1.lst_inv
          obtain ⟨q, us, rfl, hq, r4⟩ := r2.lst_inv
          exact ⟨p, q, ws, us, rfl, .inl ⟨SqL.of (h1.ok.sub _ _ hp), SqL.of (h1.ok.sub _ _ hq), o1 F1 μ1 H1 _ _ (.refl _ _ _) h1.ok walk_zip fun A' α' F2 μ2 S2 δ2 σ2 H2 h2 s m _ => ⟨⟨ws, h2.ok.sub _ _ (s _ _ hp), r3.mono s m⟩, us, h2.ok.sub _ _ (s _ _ hq), r4.mono s m⟩⟩⟩
    · rename_i xs ys q
      cases plA_rp q r with
      | cons r1 rr =>
        cases rr with
        | cons r2 rr =>
          cases rr
          obtain ⟨p, ws, rfl, hp, r3⟩ := r1.tup_inv
          obtain ⟨q, us, rfl, hq, r4⟩ := r2.tup_inv
          exact ⟨p, q, ws, us, rfl, .inr ⟨sub_t h1.ok.sub hp, sub_t h1.ok.sub hq, o1 F1 μ1 H1 _ _ (.refl _ _ _) h1.ok walk_zipT fun A' α' F2 μ2 S2 δ2 σ2 H2 h2 s m _ => ⟨⟨ws, sub_t h2.ok.sub (sub_t s hp), r3.mono s m⟩, us, sub_t h2.ok.sub (sub_t s hq), r4.mono s m⟩⟩⟩
    · exact (show False from o1).elim
end
end Gt
set_option Elab.async false
set_option linter.all false
set_option maxRecDepth 100000
namespace Gt
open PySem PySem.Spec PyProof.Rows L2 RZ
def sPut (i : Nat) (fk fv : Fe) : Fs := fun δ S => (fv δ S).bind fun a S => match toP a with
  | none => .st
  | some d => match δ[i]? with
    | some (.own xs) => (rd fk δ S).bind fun k S => (match k with
      | .int n => (match ixN xs.length n with
        | some j => .ok (.nx (δ.set i (.own (xs.set j d)))) S
        | none => .st)
      | _ => .st)
    | some (.pl (.ref m)) => (rd fk δ S).bind fun k S => (match k, S[m]? with
      | .int n, some (.lst xs) => (match ixN xs.length n with
        | some j => .ok (.nx δ) (S.set m (.lst (xs.set j d)))
        | none => .st)
      | _, _ => .st)
    | _ => .st
def sUnpM (is : List Nat) (i : Nat) : Fs := fun δ S => match δ[i]? with
  | some (.pl (.ref m)) => (match S[m]? with
    | some (.lst xs) => (match setAll is xs δ with
      | some δ' => .ok (.nx δ') S
      | none => .st)
    | _ => .st)
  | _ => .st
def eLenM (i : Nat) : Fe := fun δ S => match δ[i]? with
  | some (.pl (.ref m)) => (match S[m]? with
    | some (.lst xs) => .ok (.pl (.int xs.length)) S
    | _ => .st)
  | _ => .st
def eIxM (i : Nat) (fb : Fe) : Fe := fun δ S => match δ[i]? with
  | some (.pl (.ref m)) => (rd fb δ S).bind fun k S => (match k, S[m]? with
    | .int n, some (.lst xs) => lift ((atI xs n).map .pl) S
    | _, _ => .st)
  | _ => .st
def sRetSrc (i : Nat) (k : Int) : Fs := fun δ S => match δ[i]? with
  | some (.own xs) => .ok (.rt (.pl (.ref (S.length + 1)))) (S ++ [.lst xs, .lst [.ref S.length, .int k]])
  | _ => .st
section
variable {K : PySem.W.Frag} {W : WX} {B : Bs} {F F' H H' : Hp} {μ μ' : List Addr} {S S' : Ms} {δ : Evm} {σ : L2.St} {Q : VK}
theorem Ok.at_lst (o : Ok K F μ S H) {n : Nat} {a : Addr} {xs : List D} (e : μ[n]? = some a) (es : S[n]? = some (.lst xs)) : ∃ vs, H a = some (.lst vs) ∧ RpA K F μ vs xs := o.mr n a _ e es
theorem nodup_ix {α : Type} {μ : List α} (nd : μ.Nodup) {n m : Nat} {a : α} (e : μ[n]? = some a) (e2 : μ[m]? = some a) : n = m := by
  obtain ⟨h1, e1⟩ := List.getElem?_eq_some_iff.mp e
  obtain ⟨h2, e3⟩ := List.getElem?_eq_some_iff.mp e2
  rw [List.Nodup, List.pairwise_iff_getElem] at nd
  rcases Nat.lt_trichotomy n m with q | q | q
  · exact absurd (e1.trans e3.symm) (nd n m h1 h2 q)
  · exact q
  · exact absurd (e3.trans e1.symm) (nd m n h2 h1 q)
theorem Ok.mset (o : Ok K F μ S H) {n : Nat} {a : Addr} {x : MO} {u : HO} (e : μ[n]? = some a) (r : MoR K F μ (some u) x) : Ok K F μ (S.set n x) (upd H a u) ∧ Stp F μ H F μ (upd H a u) := by
  have hm : a ∈ μ := List.mem_of_getElem? e
  refine ⟨⟨fun b z q => ?_, o.fm, o.nd, by rw [List.length_set]; exact o.ln, fun m b z e1 e2 => ?_⟩, ⟨.refl F, .refl μ, fun b z q nm => ?_, fun b q => ?_, fun _ _ q => .inl q, fun _ q => .inl q⟩⟩
  · have ne : b ≠ a := fun z => by subst z; rw [o.fm _ hm] at q; cases q
    rw [upd_ne ne]; exact o.sub b z q
  · by_cases q : b = a
    · subst q
      have := nodup_ix o.nd e e1
      subst this
      have hn : n < S.length := by rw [o.ln]; exact (List.getElem?_eq_some_iff.mp e).1
      rw [List.getElem?_set_self hn] at e2
      cases e2
      rw [upd_same]
      exact r
    · have hn : m ≠ n := fun z => by subst z; rw [e] at e1; cases e1; exact q rfl
      rw [List.getElem?_set_ne (Ne.symm hn)] at e2
      rw [upd_ne q]
      exact o.mr m b z e1 e2
  · have ne : b ≠ a := fun z => by subst z; exact nm hm
    rw [upd_ne ne]; exact q
  · by_cases z : b = a
    · subst z; rw [upd_same] at q; cases q
    · rw [upd_ne z] at q; exact q
theorem Rp.ref_inv {v : V} {n : Nat} (h : Rp K F μ v (.ref n)) : ∃ a, v = .ref a ∧ μ[n]? = some a := by
  cases h with
  | ref h => exact ⟨_, rfl, h⟩
theorem ixN_lt {n : Nat} {k : Int} {j : Nat} (h : ixN n k = some j) : j < n := by
  unfold ixN at h
  split at h
  · split at h
    · cases h; omega
    · cases h
  · split at h
    · cases h; omega
    · cases h
end
section
variable {X : Cx} {W : WX} {a b e tg k v : Expr} {f fa fb fk fv : Fe} {pos p pos' p1 p2 : Pos} {i : Nat} {x : Str}
theorem slot_pl {K : PySem.W.Frag} {B : Bs} {F H : Hp} {μ : List Addr} {S : Ms} {δ : Evm} {σ : L2.St} (hs : StR K B F μ S δ σ H) {n : Nat} (e : δ[i]? = some (.pl (.ref n))) : ∃ a, σ[i]? = some (some (V.ref a)) ∧ μ[n]? = some a := by
  obtain ⟨v, z, r⟩ := hs.sl i _ e
  obtain ⟨a, rfl, m⟩ := r.ref_inv
  exact ⟨a, hs.addr e z, m⟩
theorem se_lenM (h : PE X (.Name x p1) (tVar i)) (hx : Gl X "len") (hm : X.mg "len" = none)
    (he : starEach [.Name x p1] X.env = (false, eval (.Name x p1) X.env) :: starEach [] X.env := by rfl) (hpl : (backTo pos (starEach [] X.env)).any (·.1) = false := by rfl) :
    SE X W (.Call (.Name "len" p) [.Name x p1] [] pos) (eLenM i) := PE.imp (pe_callB call_len hx hm PySem.boot_len (pa_cons h pa_nil he) (by decide) (by decide) he hpl) fun σ H Q ⟨B, F, μ, S, δ, hs, ho⟩ => by
  unfold eLenM at ho
  split at ho
  · rename_i m e
    obtain ⟨a, z, hm⟩ := slot_pl hs e
    split at ho
    · rename_i xs es
      obtain ⟨vs, hv, r⟩ := hs.ok.at_lst hm es
      exact ⟨_, z, _, _, rfl, .inl ⟨vs, SqL.of hv, r.len.symm⟩, ho.same hs.ok (.int _)⟩
    · exact ho.elim
  · exact ho.elim
theorem se_ixM (h : PE X (.Name x p1) (tVar i)) (hb : SE X W b fb) (hs : PlainIx b) : SE X W (.Subscript (.Name x p1) b pos) (eIxM i fb) := PE.imp (pe_ix ix_list h hb hs) fun σ H Q ⟨B, F, μ, S, δ, hs, ho⟩ => by
  unfold eIxM at ho
  split at ho
  · rename_i m e
    obtain ⟨a, z, hm⟩ := slot_pl hs e
    refine ⟨_, z, wE_rd hs ho fun d S1 F1 μ1 H1 w t1 h1 v1 o1 => ?_⟩
    split at o1
    · rename_i n xs es
      obtain ⟨vs, hv, r⟩ := h1.ok.at_lst (t1.mu.get hm) es
      have ew := (v1.rr h1).int; subst ew
      cases q : atI xs n with
      | none => rw [q] at o1; exact o1.elim
      | some d =>
        rw [q] at o1
        obtain ⟨y, hy, ry⟩ := r.atI q
        exact ⟨a, vs, n, y, rfl, rfl, SqL.of hv, hy, o1.same h1.ok ry⟩
    · exact o1.elim
  · exact ho.elim
theorem ss_unpM {is : List Nat} (h : PE X (.Name x p1) (tVar i)) (hg : PG X tg (gLst X.K is.length (gAll is))) (hs : swapsWithSole [tg] (.Name x p1) pos.line X.env = pure false := by rfl) (hw : swappedStores [tg] (.Name x p1) X.env = pure none := by rfl) (h1 : (assignEach [tg] X.env).map (·.2) = [assign tg X.env] := by rfl) :
    SS X W (.Assign [tg] (.Name x p1) pos) (sUnpM is i) := PS.imp (ps_asg h hg hs hw h1) fun D σ H ⟨B, F, μ, S, δ, hs, ho⟩ => by
  unfold sUnpM at ho
  split at ho
  · rename_i m e
    obtain ⟨a, z, hm⟩ := slot_pl hs e
    split at ho
    · rename_i xs es
      obtain ⟨vs, hv, r⟩ := hs.ok.at_lst hm es
      split at ho
      · rename_i δ' eq
        exact ⟨_, z, a, vs, rfl, SqL.of hv, by rw [r.len]; exact setAll_len eq, gAll_of hs r eq fun σ' h' _ _ => ho F μ σ' H h'⟩
      · exact ho.elim
    · exact ho.elim
  · exact ho.elim
theorem ss_put (hv : SE X W v fv) (h : PE X (.Name x p1) (tVar i)) (hk : SE X W k fk) (hs : swapsWithSole [.Subscript (.Name x p1) k p2] v pos.line X.env = pure false := by rfl) (hw : swappedStores [.Subscript (.Name x p1) k p2] v X.env = pure none := by rfl)
    (ha : ∀ u, assign (.Subscript (.Name x p1) k p2) X.env u = (do
      let ov ← holding [u] (eval (.Name x p1) X.env)
      let iv ← holding [u, ov] (eval k X.env)
      standAt p2
      holding [u, ov, iv] (setItem ov iv u)
      release [u, ov, iv] []) := by intro _; rfl) (h1 : (assignEach [.Subscript (.Name x p1) k p2] X.env).map (·.2) = [assign (.Subscript (.Name x p1) k p2) X.env] := by rfl) :
    SS X W (.Assign [.Subscript (.Name x p1) k p2] v pos) (sPut i fk fv) := PS.imp (ps_asg hv (pg_sub h hk set_list ha) hs hw h1) fun D σ H ⟨B, F, μ, S, δ, hs, ho⟩ => by
  refine ⟨B, F, μ, S, δ, hs, ?_⟩
  have main : ∀ (d : Gt.D) (S1 : Ms) (F1 : Hp) (μ1 : List Addr) (H1 : Hp) (w : V), StR X.K B F1 μ1 S1 δ σ H1 → Rp X.K F1 μ1 w d → OS X.K W B D (match δ[i]? with
    | some (.own xs) => (rd fk δ S1).bind fun k S => (match k with
      | .int n => (match ixN xs.length n with
        | some j => .ok (.nx (δ.set i (.own (xs.set j d)))) S
        | none => .st)
      | _ => .st)
    | some (.pl (.ref m)) => (rd fk δ S1).bind fun k S => (match k, S[m]? with
      | .int n, some (.lst xs) => (match ixN xs.length n with
        | some j => .ok (.nx δ) (S.set m (.lst (xs.set j d)))
        | none => .st)
      | _, _ => .st)
    | _ => .st) → gSub (tVar i) (wE X.K W fk) rSetL w σ H1 D.nx := by
    intro d S1 F1 μ1 H1 w h1 r o1
    split at o1
    · rename_i xs e
      obtain ⟨p0, vs0, z, _, _, _, _, hb⟩ := h1.sl i _ e
      have za := h1.addr e z
      refine ⟨_, za, wE_rdS h1 o1 fun kk S2 F2 μ2 H2 y t2 h2 v2 o2 => ?_⟩
      split at o2
      · rename_i n
        have ey := (v2.rr h2).int; subst ey
        split at o2
        · rename_i j ej
          obtain ⟨p', vs, z', hp, rr, nF, nM, _⟩ := h2.sl i _ e
          rw [z] at z'
          cases z'
          refine ⟨p0, vs, n, j, rfl, rfl, hp, by rw [rr.len]; exact ej, ?_⟩
          exact o2 F2 μ2 σ _ (h2.mut e rfl za rfl hb ⟨p0, _, rfl, upd_same, rr.set (r.mono t2.fr t2.mu) j, nF, nM, hb⟩)
        · exact (show False from o2).elim
      · exact (show False from o2).elim
    · rename_i m e
      obtain ⟨a, z, hm⟩ := slot_pl h1 e
      refine ⟨_, z, wE_rdS h1 o1 fun kk S2 F2 μ2 H2 y t2 h2 v2 o2 => ?_⟩
      split at o2
      · rename_i n xs es
        have ey := (v2.rr h2).int; subst ey
        have hm2 := t2.mu.get hm
        obtain ⟨vs, hv, rr⟩ := h2.ok.at_lst hm2 es
        split at o2
        · rename_i j ej
          refine ⟨a, vs, n, j, rfl, rfl, hv, by rw [rr.len]; exact ej, ?_⟩
          obtain ⟨k1, k2⟩ := h2.ok.mset (x := .lst (xs.set j d)) (u := .lst (vs.set j w)) hm2 ⟨_, rfl, rr.set (r.mono t2.fr t2.mu) j⟩
          exact o2 F2 μ2 σ _ (h2.go k2 k1)
        · exact (show False from o2).elim
      · exact (show False from o2).elim
    · exact (show False from o1).elim
  have ho2 : OS X.K W B D ((fv δ S).bind fun a S => match toP a with
    | none => .st
    | some d => match δ[i]? with
      | some (.own xs) => (rd fk δ S).bind fun k S => (match k with
        | .int n => (match ixN xs.length n with
          | some j => .ok (.nx (δ.set i (.own (xs.set j d)))) S
          | none => .st)
        | _ => .st)
      | some (.pl (.ref m)) => (rd fk δ S).bind fun k S => (match k, S[m]? with
        | .int n, some (.lst xs) => (match ixN xs.length n with
          | some j => .ok (.nx δ) (S.set m (.lst (xs.set j d)))
          | none => .st)
        | _, _ => .st)
      | _ => .st) := ho
  cases q : fv δ S with
  | st => rw [q] at ho2; exact ho2
  | ex x S1 => rw [q] at ho2; exact fun F1 μ1 H1 d t o r => ho2 F1 μ1 H1 σ d (hs.st.trans t) o r
  | ok s S1 =>
    rw [q] at ho2
    cases s with
    | no => exact (show False from ho2).elim
    | oin _ _ => exact (show False from ho2).elim
    | bor _ => exact (show False from ho2).elim
    | pl d => exact fun F1 μ1 H1 w t o r => main d S1 F1 μ1 H1 w (hs.go t o) r ho2
    | own ds =>
      rintro F1 μ1 H1 w t o ⟨p, vs, rfl, h, r, nF, nM, hn⟩
      obtain ⟨t2, o2⟩ := freeze t o h hn nF nM
      exact main (.lst ds) S1 _ μ1 H1 _ (hs.go t2 o2) (.lst upd_same (r.mono (Sub.new nF) (.refl _))) ho2
    | od ks ds =>
      rintro F1 μ1 H1 w t o ⟨p, rfl, nF, nM, hn, h⟩
      rcases h with ⟨kvs, h, rfl, r⟩ | ⟨kvs, h, rfl, r⟩
      · obtain ⟨t2, o2⟩ := freeze t o h hn nF nM
        exact main (.dct _ ds) S1 _ μ1 H1 _ (hs.go t2 o2) (.dctK upd_same (r.mono (Sub.new nF) (.refl _))) ho2
      · obtain ⟨t2, o2⟩ := freeze t o h hn nF nM
        exact main (.dct _ ds) S1 _ μ1 H1 _ (hs.go t2 o2) (.dctT upd_same (r.mono (Sub.new nF) (.refl _))) ho2
theorem ss_retSrc {n : Int} {kk : Nat} {p3 p4 : Pos} (h : PE X (.Name x p1) (tVar i)) (hs : starEach [.Name x p1, .Constant (.int n) kk p3] X.env = (false, eval (.Name x p1) X.env) :: starEach [.Constant (.int n) kk p3] X.env := by rfl) :
    SS X W (.Return (some (.List [.Name x p1, .Constant (.int n) kk p3] p4)) pos) (sRetSrc i n) := PS.imp (ps_ret (pe_lst (pa_cons h (pa_cons pe_int pa_nil) hs))) fun D σ H ⟨B, F, μ, S, δ, hs, ho⟩ => by
  unfold sRetSrc at ho
  split at ho
  · rename_i xs e
    obtain ⟨p0, vs, z, hp, r, nF, nM, hb⟩ := hs.sl i _ e
    have za := hs.addr e z
    refine ⟨_, za, by show 2 ≤ sizeLine; decide, fun q hq => ?_⟩
    obtain ⟨fq, mq⟩ := hs.ok.free hq
    have hne : q ≠ p0 := fun z => by subst z; rw [hq] at hp; cases hp
    have am : Ap μ (μ ++ [p0, q]) := ⟨[p0, q], rfl⟩
    have o1 := hs.ok.new (u := .lst [.ref p0, .int n]) hq
    have ix0 : (μ ++ [p0, q])[S.length]? = some p0 := by rw [hs.ok.ln]; simp
    have ix1 : (μ ++ [p0, q])[S.length + 1]? = some q := by rw [hs.ok.ln]; simp
    have hrp : RpA X.K F (μ ++ [p0, q]) [.ref p0, .int n] [.ref S.length, .int n] := .cons (.ref ix0) (.cons (.int n) .nil)
    refine ho F (μ ++ [p0, q]) _ (.ref q) ⟨hs.st.fr, hs.st.mu.trans am, fun a u ha nm => ?_, fun a ha => ?_, hs.st.nf, fun a ha => ?_⟩ ⟨o1.sub, fun a ha => ?_, ?_, ?_, fun m a o e1 e2 => ?_⟩ (.ref ix1)
    · have := hs.st.kp a u ha nm
      rw [upd_ne (ne_of_none this hq)]; exact this
    · by_cases w : a = q
      · subst w; exact hs.st.tr _ hq
      · rw [upd_ne w] at ha; exact hs.st.tr a ha
    · rcases List.mem_append.mp ha with w | w
      · exact hs.st.nm a w
      · rcases List.mem_cons.mp w with w | w
        · subst w; exact .inr hb
        · rcases List.mem_cons.mp w with w | w
          · subst w; exact .inr (hs.st.tr _ hq)
          · cases w
    · rcases List.mem_append.mp ha with w | w
      · exact hs.ok.fm a w
      · rcases List.mem_cons.mp w with w | w
        · subst w; exact nF
        · rcases List.mem_cons.mp w with w | w
          · subst w; exact fq
          · cases w
    · rw [List.nodup_append]
      refine ⟨hs.ok.nd, by simp [Ne.symm hne], fun a ha b hb2 => ?_⟩
      rcases List.mem_cons.mp hb2 with w | w
      · subst w; exact fun z => nM (z ▸ ha)
      · rcases List.mem_cons.mp w with w | w
        · subst w; exact fun z => mq (z ▸ ha)
        · cases w
    · rw [List.length_append, List.length_append, hs.ok.ln]; rfl
    · by_cases c : m < S.length
      · rw [List.getElem?_append_left c] at e2
        rw [List.getElem?_append_left (by rw [← hs.ok.ln]; exact c)] at e1
        exact (o1.mr m a o e1 e2).mono (.refl F) am
      · obtain ⟨d, rfl⟩ : ∃ d, m = S.length + d := ⟨m - S.length, by omega⟩
        rw [List.getElem?_append_right (by omega), Nat.add_sub_cancel_left] at e2
        match d, e2 with
        | 0, e2 =>
          rw [Nat.add_zero, ix0] at e1
          cases e1
          cases e2
          rw [upd_ne (Ne.symm hne)]
          exact ⟨vs, hp, r.mono (.refl F) am⟩
        | 1, e2 =>
          rw [ix1] at e1
          cases e1
          cases e2
          rw [upd_same]
          exact ⟨_, rfl, hrp⟩
        | d + 2, e2 => simp at e2
  · exact ho.elim
end
end Gt
set_option Elab.async false
set_option linter.all false
set_option maxRecDepth 100000
namespace Gt
open PySem PySem.Spec PyProof.Rows L2 RZ
def putD (ds : List D) (k : Nat) (d : D) : Option (List D) := if k < ds.length then some (ds.set k d) else if k = ds.length then some (ds ++ [d]) else none
def sFldM (i c k : Nat) (fv : Fe) : Fs := fun δ S => (fv δ S).bind fun a S => match toP a with
  | some d => (match δ[i]? with
    | some (.pl (.ref m)) => (match S[m]? with
      | some (.ins c' ds) => if c' = c then (match putD ds k d with
        | some es => .ok (.nx δ) (S.set m (.ins c es))
        | none => .st) else .st
      | _ => .st)
    | _ => .st)
  | none => .st
def eFldM (i c k : Nat) : Fe := fun δ S => match δ[i]? with
  | some (.pl (.ref m)) => (match S[m]? with
    | some (.ins c' ds) => if c' = c then lift ((ds[k]?).map .pl) S else .st
    | _ => .st)
  | _ => .st
section
variable {K : PySem.W.Frag} {W : WX} {B : Bs} {F F' H H' : Hp} {μ μ' : List Addr} {S S' : Ms} {δ : Evm} {σ : L2.St} {Q : VK}
theorem Ok.at_ins (o : Ok K F μ S H) {n c : Nat} {a : Addr} {xs : List D} (e : μ[n]? = some a) (es : S[n]? = some (.ins c xs)) : ∃ dx fs, H a = some (.ins (cA K c) dx fs) ∧ fs.map (·.1) = (clF c).take xs.length ∧ RpA K F μ (fs.map (·.2)) xs := o.mr n a _ e es
theorem putF_get {f : Str} {v : V} : ∀ {fs : List (Str × V)} {k : Nat}, (fs.map (·.1))[k]? = some f → (fs.map (·.1)).Nodup → (putF f v fs).map (·.1) = fs.map (·.1) ∧ (putF f v fs).map (·.2) = (fs.map (·.2)).set k v
  | [], _, h, _ => by simp at h
  | (g, x) :: r, 0, h, _ => by
    simp at h
    subst h
    simp [putF]
  | (g, x) :: r, k + 1, h, nd => by
    rw [List.map_cons, List.nodup_cons] at nd
    rw [List.map_cons, List.getElem?_cons_succ] at h
    have ne : g ≠ f := fun e => by subst e; exact nd.1 (List.mem_of_getElem? h)
    obtain ⟨a, b⟩ := putF_get (v := v) h nd.2
    simp [putF, ne, a, b]
theorem putF_new {f : Str} {v : V} : ∀ {fs : List (Str × V)}, f ∉ fs.map (·.1) → putF f v fs = fs ++ [(f, v)]
  | [], _ => rfl
  | (g, x) :: r, h => by
    rw [List.map_cons, List.mem_cons] at h
    have ne : g ≠ f := fun e => h (.inl e.symm)
    have := putF_new (v := v) (fs := r) fun z => h (.inr z)
    simp [putF, ne, this]
theorem putD_rp {fs : List (Str × V)} {c k : Nat} {x : Str} {v : V} {d : D} {ds es : List D} (hk : (clF c)[k]? = some x) (nd : (clF c).Nodup) (hn : fs.map (·.1) = (clF c).take ds.length) (r : RpA K F μ (fs.map (·.2)) ds) (rv : Rp K F μ v d) (e : putD ds k d = some es) :
    (putF x v fs).map (·.1) = (clF c).take es.length ∧ RpA K F μ ((putF x v fs).map (·.2)) es := by
  have hl : fs.length = ds.length := by rw [← r.len, List.length_map]
  have ndf : (fs.map (·.1)).Nodup := by rw [hn]; exact nd.sublist (List.take_sublist _ _)
  unfold putD at e
  split at e
  · rename_i hlt
    cases e
    have hx : (fs.map (·.1))[k]? = some x := by
      rw [hn, List.getElem?_take_of_lt hlt]
      exact hk
    obtain ⟨a, b⟩ := putF_get (v := v) hx ndf
    rw [a, b, List.length_set]
    exact ⟨hn, r.set rv k⟩
  · split at e
    · rename_i hlt heq
      cases e
      have hxn : x ∉ fs.map (·.1) := fun hm => by
        rw [hn] at hm
        obtain ⟨j, hj, ej⟩ := List.getElem_of_mem hm
        have hj2 : j < ds.length := by
          rw [List.length_take] at hj
          omega
        rw [List.getElem_take] at ej
        obtain ⟨hk1, hk2⟩ := List.getElem?_eq_some_iff.mp hk
        have hjl : j < (clF c).length := by
          rw [List.length_take] at hj
          omega
        have hjk : (clF c)[j]? = (clF c)[k]? := by rw [hk, List.getElem?_eq_getElem hjl, ej]
        have := nodup_ix nd (a := x) (hjk.trans hk) hk
        omega
      rw [putF_new hxn, List.map_append, List.map_append]
      refine ⟨?_, r.app (.cons rv .nil)⟩
      rw [hn, List.length_append]
      show _ ++ [x] = (clF c).take (ds.length + 1)
      rw [List.take_succ, ← heq, hk]
      rfl
    · cases e
end
section
variable {X : Cx} {W : WX} {a b e v : Expr} {f fv : Fe} {pos p pos' p1 p2 : Pos} {i c k : Nat} {x y : Str}
theorem se_fldM (h : PE X (.Name x p1) (tVar i)) (cl : Cls X.K (cA X.K c)) (na : NoAttr X.K (cA X.K c) y) (hk : (clF c)[k]? = some y) (nd : (clF c).Nodup) (hb : attributeBase (.Name x p1) y X.env (eval (.Name x p1) X.env) = eval (.Name x p1) X.env := by rfl) : SE X W (.Attribute (.Name x p1) y pos) (eFldM i c k) :=
  PE.imp (pe_fld h hb) fun σ H Q ⟨B, F, μ, S, δ, hs, ho⟩ => by
    unfold eFldM at ho
    split at ho
    · rename_i m e
      obtain ⟨a, z, hm⟩ := slot_pl hs e
      split at ho
      · rename_i c' ds es
        split at ho
        · rename_i ec
          subst ec
          obtain ⟨dx, fs, hi, hn, r⟩ := hs.ok.at_ins hm es
          cases q : ds[k]? with
          | none => rw [q] at ho; exact ho.elim
          | some d =>
            rw [q] at ho
            obtain ⟨w, hw, rw_⟩ := r.getD q
            have hlt := (List.getElem?_eq_some_iff.mp q).1
            exact ⟨_, z, a, _, dx, fs, w, rfl, hi, cl, na, lookup_nth (by rw [hn, List.getElem?_take_of_lt hlt]; exact hk) (by rw [hn]; exact nd.sublist (List.take_sublist _ _)) hw, ho.same hs.ok rw_⟩
        · exact ho.elim
      · exact ho.elim
    · exact ho.elim
theorem ss_fldM (hv : SE X W v fv) (h : PE X (.Name x p1) (tVar i)) (cl : Cls X.K (cA X.K c)) (na : NoAttr X.K (cA X.K c) y) (hk : (clF c)[k]? = some y) (nd : (clF c).Nodup) (hl : (clF c).length < 1000) (hs : swapsWith v (some (.Attribute (.Name x p1) y p2)) pos.line X.env = pure false := by rfl) : SS X W (.Assign [.Attribute (.Name x p1) y p2] v pos) (sFldM i c k fv) :=
  PS.imp (ps_fld h hv hs) fun D σ H ⟨B, F, μ, S, δ, hs, ho⟩ => by
    refine wE_P hs ho fun d S1 F1 μ1 H1 w t h1 r o1 => ?_
    split at o1
    · rename_i m e
      obtain ⟨a, z, hm⟩ := slot_pl h1 e
      split at o1
      · rename_i c' ds es
        split at o1
        · rename_i ec
          subst ec
          split at o1
          · rename_i es' eq
            obtain ⟨dx, fs, hi, hn, rr⟩ := h1.ok.at_ins hm es
            obtain ⟨n1, n2⟩ := putD_rp hk nd hn rr r eq
            have hlen : fs.length < 1000 := by
              have := congrArg List.length hn
              rw [List.length_map, List.length_take] at this
              omega
            obtain ⟨k1, k2⟩ := h1.ok.mset (x := .ins c' es') (u := .ins (cA X.K c') dx (putF y w fs)) hm ⟨dx, _, rfl, n1, n2⟩
            exact ⟨_, z, a, _, dx, fs, rfl, hi, cl, na, hlen, o1 F1 μ1 σ _ (h1.go k2 k1)⟩
          · exact (show False from o1).elim
        · exact (show False from o1).elim
      · exact (show False from o1).elim
    · exact (show False from o1).elim
end
mutual
def refD (n : Nat) : D → Bool
  | .ref m => decide (m < n)
  | .lst xs => refA n xs
  | .tup xs => refA n xs
  | .dct _ vs => refA n vs
  | .ins _ fs => refA n fs
  | _ => true
def refA (n : Nat) : List D → Bool
  | [] => true
  | x :: xs => refD n x && refA n xs
end
section
variable {K : PySem.W.Frag} {F : Hp} {μ ν : List Addr}
mutual
theorem Rp.refs : ∀ {v : V} {d : D}, Rp K F μ v d → refD μ.length d = true
  | _, _, .non => rfl
  | _, _, .bl b => rfl
  | _, _, .int i => rfl
  | _, _, .str x => rfl
  | _, _, .lst h r => by rw [refD]; exact RpA.refs r
  | _, _, .scr h => rfl
  | _, _, .tup h r => by rw [refD]; exact RpA.refs r
  | _, _, .dctK h r => by rw [refD]; exact RpA.refs r
  | _, _, .dctT h r => by rw [refD]; exact RpA.refs r
  | _, _, .ins h n r => by rw [refD]; exact RpA.refs r
  | _, _, .ref h => by rw [refD]; exact decide_eq_true (List.getElem?_eq_some_iff.mp h).1
theorem RpA.refs : ∀ {vs : List V} {ds : List D}, RpA K F μ vs ds → refA μ.length ds = true
  | _, _, .nil => rfl
  | _, _, .cons h t => by rw [refA, Rp.refs h, RpA.refs t]; rfl
end
mutual
theorem Rp.shrink : ∀ {v : V} {d : D}, refD μ.length d = true → Rp K F (μ ++ ν) v d → Rp K F μ v d
  | _, _, _, .non => .non
  | _, _, _, .bl b => .bl b
  | _, _, _, .int i => .int i
  | _, _, _, .str x => .str x
  | _, _, e, .lst h r => .lst h (RpA.shrink (by rwa [refD] at e) r)
  | _, _, _, .scr h => .scr h
  | _, _, e, .tup h r => .tup h (RpA.shrink (by rwa [refD] at e) r)
  | _, _, e, .dctK h r => .dctK h (RpA.shrink (by rwa [refD] at e) r)
  | _, _, e, .dctT h r => .dctT h (RpA.shrink (by rwa [refD] at e) r)
  | _, _, e, .ins h n r => .ins h n (RpA.shrink (by rwa [refD] at e) r)
  | _, _, e, .ref h => .ref (by
      rw [refD] at e
      rw [List.getElem?_append_left (of_decide_eq_true e)] at h
      exact h)
theorem RpA.shrink : ∀ {vs : List V} {ds : List D}, refA μ.length ds = true → RpA K F (μ ++ ν) vs ds → RpA K F μ vs ds
  | _, _, _, .nil => .nil
  | _, d :: ds, e, .cons h t => by
    rw [refA, Bool.and_eq_true] at e
    exact .cons (Rp.shrink e.1 h) (RpA.shrink e.2 t)
end
mutual
theorem plain_ref {n : Nat} : ∀ {d : D}, plainD d = true → refD n d = true
  | .non, _ => rfl
  | .bl _, _ => rfl
  | .int _, _ => rfl
  | .str _, _ => rfl
  | .lst xs, h => by rw [plainD] at h; rw [refD]; exact plain_refA h
  | .tup xs, h => by rw [plainD] at h; rw [refD]; exact plain_refA h
  | .scr _, _ => rfl
  | .dct _ _, h => by simp [plainD] at h
  | .ins _ _, h => by simp [plainD] at h
  | .ref _, h => by simp [plainD] at h
theorem plain_refA {n : Nat} : ∀ {ds : List D}, plainA ds = true → refA n ds = true
  | [], _ => rfl
  | d :: ds, h => by
    rw [plainA, Bool.and_eq_true] at h
    rw [refA, plain_ref h.1, plain_refA h.2]
    rfl
end
def refM (n : Nat) : MO → Bool
  | .lst xs => refA n xs
  | .ins _ xs => refA n xs
theorem MoR.refs {o : Option HO} : ∀ {x : MO}, MoR K F μ o x → refM μ.length x = true
  | .lst _, ⟨_, _, r⟩ => r.refs
  | .ins _ _, ⟨_, _, _, _, r⟩ => r.refs
theorem MoR.shrink {o : Option HO} : ∀ {x : MO}, refM μ.length x = true → MoR K F (μ ++ ν) o x → MoR K F μ o x
  | .lst _, e, ⟨vs, h, r⟩ => ⟨vs, h, r.shrink e⟩
  | .ins _ _, e, ⟨dx, fs, h, n, r⟩ => ⟨dx, fs, h, n, r.shrink e⟩
theorem Ok.shrink {S : Ms} {H H0 F0 : Hp} {x : Addr} {o : MO} (o0 : Ok K F0 μ S H0) (ok : Ok K F (μ ++ [x]) (S ++ [o]) H) : Ok K F μ S H :=
  ⟨ok.sub, fun a ha => ok.fm a (List.mem_append_left _ ha), (List.nodup_append.mp ok.nd).1, o0.ln, fun n a z e1 e2 => by
    have hn : n < S.length := (List.getElem?_eq_some_iff.mp e2).1
    have h1 := ok.mr n a z (by rw [List.getElem?_append_left (by rw [← o0.ln]; exact hn)]; exact e1) (by rw [List.getElem?_append_left hn]; exact e2)
    exact MoR.shrink (MoR.refs (o0.mr n a z e1 e2)) h1⟩
end
end Gt
set_option Elab.async false
set_option linter.all false
set_option maxRecDepth 100000
namespace Gt
open PySem PySem.Spec PyProof.Rows L2 RZ StX ClX
section
variable {M : Model} {A : Around} {E : Value → Shared → Prop} {s : Shared}
open PySem.W in
theorem lone_kw {f : Value} {x : Sem Value} {pos : Pos} {kws : List (Option Str × Sem Value)} {Q : Args → Shared → Prop} (hall : kws.all (·.1.isSome) = true)
    (h : wpAny M A x (fun v s₁ => wpAny M A (evalAll (kws.map (·.2))) (fun ks s₂ => StarOf M A E v (fun vs s₃ => Q ⟨vs, (kws.filterMap (·.1)).zip ks⟩ s₃) s₂) E s₁) E s) :
    wpAny M A (evalArgs f true [(true, (do let v ← x; standAt pos; pure v))] kws) Q E s := by
  unfold evalArgs
  first
    | refine wpAny_bind (wpAny_bind (wpAny_mono h (fun v s₁ h₁ => wpAny_bind (wpAny_standAt (wpAny_pure ?_))) fun _ _ x => x))
    | refine wpAny_bind (wpAny_bind (wpAny_bind (wpAny_mono h (fun v s₁ h₁ => wpAny_bind (wpAny_standAt (wpAny_pure (wpAny_pure ?_)))) fun _ _ x => x)))
  refine wpAny_holding ?_
  rw [if_pos hall]
  refine wpAny_bind (wpAny_mono h₁ (fun ks s₂ h₂ => ?_) fun _ _ x => x)
  unfold StarOf at h₂
  refine wpAny_bind ?_
  refine wpAny_bind (wpAny_mono h₂ (fun b s₃ h₃ => ?_) fun _ _ x => x)
  obtain ⟨rfl, h₃⟩ := h₃
  have z := fun vs' => wpAny_holding (vs := vs') (wpAny_mono h₃ (fun vs s₃ h₃ => (wpAny_pure h₃ : wpAny M A (pure (⟨vs, (kws.filterMap (·.1)).zip ks⟩ : Args)) Q E s₃)) fun _ _ x => x)
  try simp only [Bool.false_eq_true, if_false]
  first
    | exact z _
    | exact wpAny_bind (z _)
    | exact wpAny_bind (wpAny_pure (z _))
open PySem.W in
theorem callK_of {f : Value} {first : List Value} {pos : Pos} {Q : Value → Shared → Prop} {P : Heap → Prop} {args : List (Bool × Sem Value)} {kws : List (Option Str × Sem Value)} (hst : args.any (·.1) = true)
    (hk : ∀ h, P h → ∃ k, (k = Keeper.frame ∨ k = Keeper.machine ∨ k = Keeper.boundFrame) ∧ Looks M h (keeperOf f) k)
    (h : wpAny M A (evalArgs f true args kws) (fun a s₁ => P s₁.heap ∧ wpAny M A (call f (first ++ a.pos) a.kw) Q E s₁) E s) : wpAny M A (callWith pos f first args kws) Q E s := by
  unfold callWith
  refine wpAny_bind (wpAny_holding (wpAny_mono h (fun a s₁ h₁ => wpAny_bind (wpAny_standAt ?_)) fun _ _ x => x))
  obtain ⟨k, hk', L⟩ := hk _ h₁.1
  simp only [hst, Bool.true_or]
  refine wpAny_bind (L.here ?_)
  have tail : ∀ {t : Sem Value}, wpAny M A t Q E s₁ → wpAny M A (t >>= fun r => holding [r] point >>= fun _ => pure r) Q E s₁ :=
    fun ht => wpAny_bind (wpAny_mono ht (fun r s₂ hr => wpAny_bind (wpAny_holding (wpAny_point (wpAny_pure hr)))) fun _ _ x => x)
  have marked (mk : Value) : wpAny M A (callMarked mk f (first ++ a.pos) a.kw) Q E s₁ := by unfold callMarked; exact Calls.wpAny_keep h₁.2
  rcases hk' with rfl | rfl | rfl <;> dsimp only <;> first | exact tail (marked _) | exact tail (wpAny_operating h₁.2)
end
def FnI (P : Program) (w : World) (K : PySem.W.Frag) (mg : Str → Option Value) (base : Heap) (CX : CXT) (k : Nat) (f : Addr) (kn : Str) (sp : Sp) : Prop :=
  ∀ (A : Around) (outer : List Env) (s : Shared) (H : Hp) (v0 gv : V) (rest : List V) (u0 ug : Value) (us : List Value) (Q : VK) (E : XK), Room k A → Env0 P w K mg base A outer s H → RelV v0 u0 → Vals rest us → RelV gv ug → rest.length ≤ sizeLine →
    (∀ p, H p = none → sp [v0, gv, .ref p] (upd H p (.tup rest)) Q E) → codeAny (model P w) A (.call (.ref f) ⟨u0 :: us, [(kn, ug)]⟩) (CR CX outer P w H s Q E) s
theorem fn_init {P : Program} {w : World} {K : PySem.W.Frag} {mg : Str → Option Value} {base : Heap} {x qual kn p1 pv : Str} {params : Arguments} {bd : List Stmt} {sc : Scope} {dvs : List V} {kws : List (Str × V)} {f : Addr} {fd : FuncData} {N : List Str} {k : Nat} {sp : Sp} (F : L2.FunD K x qual params bd sc dvs kws f fd) (S : FnScope N [p1, kn, pv] sc)
    (hbi : ∀ (dV kV doc pm : Value) (an : Option Addr) (cdv ct u0 ug : Value) (rest : List Value), DflV K dV dvs → bindArgs (PySem.W.fnOf x qual params bd sc dV kV doc pm an cdv ct) ⟨u0 :: rest, [(kn, ug)]⟩ = (newTuple rest >>= fun t => pure [(p1, u0), (kn, ug), (pv, t)]))
    (hbody : ∀ (cdv : Value) (A : Around) (outer : List Env) (s : Shared) (H : Hp) (vs : List V) (Q : VK) (E : XK), Room k (A.deeper (envOfC qual sc s.heap.objs.size f cdv)) → sp vs H Q E →
      ∃ t, PSs (cxOf (L2.CX P w) P w K mg base N qual sc f cdv A outer s H E) bd t ∧ t { nx := fun _ H' => Q .non H', rt := Q } (L2.start N vs) H) : FnI P w K mg base (L2.CX P w) (k + 1) f kn sp := by
  intro A outer s H v0 gv rest u0 ug us Q E hr e0 r0 rv rg hz hq
  obtain ⟨oc, od, dV, kV, doc, pm, an, cdv, ct, osl, rfl, lk, hcd, hD, hK⟩ := F.ex
  have hn : H s.heap.objs.size = Option.none := e0.hok.fresh (Nat.le_refl _)
  have hl2 : us.length ≤ sizeLine := by rw [← rv.length]; exact hz
  refine run_bnd lk hcd S hr e0 (G := fun xs H2 => ∃ p, H p = Option.none ∧ xs = [v0, gv, V.ref p] ∧ H2 = upd H p (.tup rest)) (fun A' Ex Q' h => ?_) fun s2 H2 xs ⟨p, hp, ex, eH⟩ hr' => ?_
  · rw [hbi dV kV doc pm an cdv ct u0 ug us hD]
    refine wpAny_bind (wpAny_newTuple (wpAny_pure ?_) hl2)
    have new : ObjOk P w (upd H s.heap.objs.size (.tup rest)) (s.heap.push ({ cls := .type "tuple", data := .seq us.toArray } : Obj)) s.heap.objs.size (.tup rest) := ⟨hz, us, rv, ⟨_, Heap.get?_push_size _ rfl, rfl, _, rfl⟩⟩
    have un := un_laid (fs := frs outer) (s := s) (o := ({ cls := .type "tuple", data := .seq us.toArray } : Obj)) (u := .tup rest) hn
    exact h _ _ [v0, gv, V.ref s.heap.objs.size] [u0, ug, Value.ref s.heap.objs.size] (env0_laid e0 new) un rfl (fun e s' => cxUp outer s H _ _ E e s' un (fun b o q => Heap.get?_push_of_some _ q) rfl) (.cons r0 (.cons rg (.cons rfl .nil))) rfl ⟨_, hn, rfl, rfl⟩
  · subst ex eH
    exact hbody cdv A outer s2 _ _ Q E hr' (hq p hp)
theorem init_ok {P : Program} {w : World} {K : PySem.W.Frag} {mg : Str → Option Value} {base : Heap} {x qual kn p1 pv : Str} {params : Arguments} {bd : List Stmt} {sc : Scope} {dvs : List V} {kws : List (Str × V)} {f : Addr} {fd : FuncData} {N : List Str} {k : Nat} {body : Fs} (F : L2.FunD K x qual params bd sc dvs kws f fd) (S : FnScope N [p1, kn, pv] sc)
    (hbi : ∀ (dV kV doc pm : Value) (an : Option Addr) (cdv ct u0 ug : Value) (rest : List Value), DflV K dV dvs → bindArgs (PySem.W.fnOf x qual params bd sc dV kV doc pm an cdv ct) ⟨u0 :: rest, [(kn, ug)]⟩ = (newTuple rest >>= fun t => pure [(p1, u0), (kn, ug), (pv, t)]))
    (hl : 3 ≤ N.length) (hb : ∀ (cdv : Value) (A : Around) (outer : List Env) (s : Shared) (H : Hp) (E : XK), Room k (A.deeper (envOfC qual sc s.heap.objs.size f cdv)) → SL (cxOf (L2.CX P w) P w K mg base N qual sc f cdv A outer s H E) (WD E) bd body) :
    FnI P w K mg base (L2.CX P w) (k + 1) f kn (spF K 3 (runB body N.length)) :=
  fn_init F S hbi fun cdv A outer s H vs Q E hr h => ⟨_, hb cdv A outer s H E hr, body_of hl h⟩
open Classical in
noncomputable def mkR (c : Nat) (h : Fn) (os : List D) (g : Sl) (S : Ms) : Rs Sl := match h [.pl (.ref S.length), g, .pl (.tup os)] (S ++ [.ins c []]) with
  | .ok (.pl .non) S' => (match S'[S.length]? with
    | some (.ins c' ds) => if c' = c ∧ plainA ds = true ∧ ds.length = (clF c).length ∧ S' = S ++ [.ins c ds] then .ok (.pl (.ins c ds)) S else .st
    | _ => .st)
  | .ex x S' => if plainA x.fs = true ∧ ∃ o, S' = S ++ [o] then .ex x S else .st
  | _ => .st
theorem mkR_ok {c : Nat} {h : Fn} {os : List D} {g : Sl} {S : Ms} {ds : List D} (e : h [.pl (.ref S.length), g, .pl (.tup os)] (S ++ [.ins c []]) = .ok (.pl .non) (S ++ [.ins c ds])) (p : plainA ds = true) (l : ds.length = (clF c).length) : mkR c h os g S = .ok (.pl (.ins c ds)) S := by
  unfold mkR
  rw [e]
  have : (S ++ [MO.ins c ds])[S.length]? = some (.ins c ds) := by simp
  dsimp only
  rw [this]
  dsimp only
  rw [if_pos ⟨rfl, p, l, rfl⟩]
theorem mkR_ex {c : Nat} {h : Fn} {os : List D} {g : Sl} {S : Ms} {x : Xn} {o : MO} (e : h [.pl (.ref S.length), g, .pl (.tup os)] (S ++ [.ins c []]) = .ex x (S ++ [o])) (p : plainA x.fs = true) : mkR c h os g S = .ex x S := by
  unfold mkR
  rw [e]
  dsimp only
  rw [if_pos ⟨p, o, rfl⟩]
noncomputable def eMake (c : Nat) (h : Fn) (fs : List Fe) (fg : Fe) : Fe := fun δ S => (fA fs δ S).bind fun ss S => match plA ss with
  | some os => if os.length ≤ cap then (fA [fg] δ S).bind fun gs S => (match gs with
    | [g] => mkR c h os g S
    | _ => .st) else .st
  | none => .st
noncomputable def eMakeS (c : Nat) (h : Fn) (f fg : Fe) : Fe := fun δ S => (rd f δ S).bind fun d S => (fA [fg] δ S).bind fun gs S => match seqD d, gs with
  | some os, [g] => if os.length ≤ cap then mkR c h os g S else .st
  | _, _ => .st
section
variable {K : PySem.W.Frag} {W : WX} {B : Bs} {F F' H H' : Hp} {μ μ' : List Addr} {S S' : Ms} {δ : Evm} {σ : L2.St} {Q : VK}
theorem Ok.newM (o : Ok K F μ S H) {x : Addr} {u : HO} {m : MO} (h : H x = none) (r : MoR K F (μ ++ [x]) (some u) m) : Ok K F (μ ++ [x]) (S ++ [m]) (upd H x u) := by
  have o1 := o.new (u := u) h
  obtain ⟨fx, mx⟩ := o.free h
  refine ⟨o1.sub, fun a ha => ?_, ?_, ?_, fun n a z e1 e2 => ?_⟩
  · rcases List.mem_append.mp ha with w | w
    · exact o.fm a w
    · rcases List.mem_cons.mp w with w | w
      · subst w; exact fx
      · cases w
  · rw [List.nodup_append]
    refine ⟨o.nd, by simp, fun a ha b hb => ?_⟩
    rcases List.mem_cons.mp hb with w | w
    · subst w; exact fun z => mx (z ▸ ha)
    · cases w
  · rw [List.length_append, List.length_append, o.ln]; rfl
  · by_cases c : n < S.length
    · rw [List.getElem?_append_left c] at e2
      rw [List.getElem?_append_left (by rw [← o.ln]; exact c)] at e1
      exact (o1.mr n a z e1 e2).mono (.refl F) ⟨[x], rfl⟩
    · have hn : n = S.length := by
        have := (List.getElem?_eq_some_iff.mp e2).1
        rw [List.length_append] at this
        simp at this
        omega
      subst hn
      rw [List.getElem?_append_right (Nat.le_refl _), Nat.sub_self] at e2
      rw [o.ln, List.getElem?_append_right (Nat.le_refl _), Nat.sub_self] at e1
      cases e1
      cases e2
      rw [upd_same]
      exact r
theorem mk_of {c : Nat} {h : Fn} {os : List D} {g : Sl} {ws : List V} {gv : V} {x dx p : Addr} {E : XK} (o : Ok K F μ S H) (r : RpA K F μ ws os) (rg : AR K F μ H gv g) (hx : H x = none) (hdx : H dx = none) (hne : dx ≠ x) (hp : upd (upd H dx (.own x)) x (.ins (cA K c) dx []) p = none)
    (q : OF K F μ H Q E (mkR c h os g S)) : spF K 3 h [.ref x, gv, .ref p] (upd (upd (upd H dx (.own x)) x (.ins (cA K c) dx [])) p (.tup ws)) (fun v H2 => v = .non ∧ Q (.ref x) H2) E := by
  have px : p ≠ x := fun z => by subst z; rw [upd_same] at hp; cases hp
  have pd : p ≠ dx := fun z => by subst z; rw [upd_ne px, upd_same] at hp; cases hp
  have hpH : H p = none := by rw [upd_ne px, upd_ne pd] at hp; exact hp
  have o1 := o.new (u := .own x) hdx
  have hx1 : upd H dx (.own x) x = none := by rw [upd_ne (Ne.symm hne)]; exact hx
  have o2 := o1.newM (m := .ins c []) (u := .ins (cA K c) dx []) hx1 ⟨dx, [], rfl, by simp, .nil⟩
  have o3 := o2.newF (u := .tup ws) hp
  have am : Ap μ (μ ++ [x]) := ⟨[x], rfl⟩
  have sF : Sub F (upd F p (.tup ws)) := Sub.new (o.free hpH).1
  have ln : μ.length = S.length := o.ln.symm
  have self : AR K (upd F p (.tup ws)) (μ ++ [x]) (upd (upd (upd H dx (.own x)) x (.ins (cA K c) dx [])) p (.tup ws)) (.ref x) (.pl (.ref S.length)) := .ref (by rw [← ln]; simp)
  have up : ∀ a u, H a = some u → upd (upd (upd H dx (.own x)) x (.ins (cA K c) dx [])) p (.tup ws) a = some u := fun a u e => by
    rw [upd_ne (ne_of_none e hpH), upd_ne (ne_of_none e hx), upd_ne (ne_of_none e hdx)]; exact e
  have dn : ∀ a, upd (upd (upd H dx (.own x)) x (.ins (cA K c) dx [])) p (.tup ws) a = none → H a = none := fun a e => by
    cases q : H a with
    | none => rfl
    | some u => rw [up a u q] at e; cases e
  have ag : AR K (upd F p (.tup ws)) (μ ++ [x]) (upd (upd (upd H dx (.own x)) x (.ins (cA K c) dx [])) p (.tup ws)) gv g := by
    cases g with
    | pl d => exact Rp.mono sF am rg
    | bor ds =>
      obtain ⟨l, vs, e1, e2, e3, e4⟩ := rg
      refine ⟨l, vs, e1, up _ _ e2, e3.mono sF am, fun hm => ?_⟩
      rcases List.mem_append.mp hm with w | w
      · exact e4 w
      · rcases List.mem_cons.mp w with w | w
        · subst w; rw [hx] at e2; cases e2
        · cases w
    | no => exact (show False from rg).elim
    | own _ => exact (show False from rg).elim
    | od _ _ => exact (show False from rg).elim
    | oin _ _ => exact (show False from rg).elim
  have at_ : AR K (upd F p (.tup ws)) (μ ++ [x]) (upd (upd (upd H dx (.own x)) x (.ins (cA K c) dx [])) p (.tup ws)) (.ref p) (.pl (.tup os)) := .tup upd_same (r.mono sF am)
  refine ⟨upd F p (.tup ws), μ ++ [x], S ++ [.ins c []], [.pl (.ref S.length), g, .pl (.tup os)], rfl, o3, .cons self (.cons ag (.cons at_ .nil)), ?_⟩
  have back : ∀ {F1 μ1 S1 H1}, (∃ m, S1 = S ++ [m]) → Stp (upd F p (.tup ws)) (μ ++ [x]) (upd (upd (upd H dx (.own x)) x (.ins (cA K c) dx [])) p (.tup ws)) F1 μ1 H1 → Ok K F1 μ1 S1 H1 → μ1 = μ ++ [x] ∧ Stp F μ H F1 μ H1 ∧ Ok K F1 μ S H1 := by
    intro F1 μ1 S1 H1 ⟨m, em⟩ t ok
    subst em
    have e : μ1 = μ ++ [x] := by
      obtain ⟨t2, e2⟩ := t.mu
      have := ok.ln
      rw [e2, List.length_append, List.length_append, List.length_append, ln] at this
      simp at this
      subst this
      rw [e2, List.append_nil]
    subst e
    refine ⟨rfl, ⟨sF.trans t.fr, .refl μ, fun a u ha nm => t.kp a u (up a u ha) fun hm => ?_, fun a ha => dn a (t.tr a ha), fun a u ha => ?_, fun a ha => .inl ha⟩, o.shrink ok⟩
    · rcases List.mem_append.mp hm with w | w
      · exact nm w
      · rcases List.mem_cons.mp w with w | w
        · subst w; rw [hx] at ha; cases ha
        · cases w
    · rcases t.nf a u ha with w | w | ⟨w1, vs', w2⟩
      · by_cases z : a = p
        · subst z; exact .inr (.inl hpH)
        · rw [upd_ne z] at w; exact .inl w
      · exact .inr (.inl (dn a w))
      · have nmu : a ∉ μ := fun m => w1 (List.mem_append_left _ m)
        cases q0 : H a with
        | none => exact .inr (.inl rfl)
        | some u0 =>
          have := up a u0 q0
          rw [w2] at this
          cases this
          exact .inr (.inr ⟨nmu, vs', rfl⟩)
  unfold mkR at q
  cases e : h [.pl (.ref S.length), g, .pl (.tup os)] (S ++ [.ins c []]) with
  | st => rw [e] at q; exact (show False from q).elim
  | ex y S1 =>
    rw [e] at q
    dsimp only at q
    by_cases pl0 : plainA y.fs = true ∧ ∃ o, S1 = S ++ [o]
    · rw [if_pos pl0] at q
      have pl := pl0.1
      intro F1 μ1 H1 d t ok rx
      obtain ⟨rfl, t2, ok2⟩ := back pl0.2 t ok
      refine q F1 μ H1 d t2 ok2 ?_
      rcases rx with rx | ⟨dd, fs, r1, r2, r3, r4⟩
      · exact .inl rx
      · exact .inr ⟨dd, fs, r1, r2, r3, r4.shrink (plain_refA pl)⟩
    · rw [if_neg pl0] at q
      exact (show False from q).elim
  | ok s S1 =>
    rw [e] at q
    cases s with
    | pl d =>
      cases d <;> first | exact (show False from q).elim | skip
      case non =>
        dsimp only at q
        split at q
        · rename_i c' ds e5
          split at q
          · rename_i cc
            obtain ⟨rfl, c2, c3, c4⟩ := cc
            intro F1 μ1 H1 v t ok rv
            obtain ⟨rfl, t2, ok2⟩ := back ⟨_, c4⟩ t ok
            cases (show Rp K F1 (μ ++ [x]) v .non from rv)
            obtain ⟨dx', fs, hi, hn, ri⟩ := ok.at_ins (n := S.length) (a := x) (by rw [← ln]; simp) e5
            have nF : F1 x = none := ok.fm x (by simp)
            have nM : x ∉ μ := (o.free hx).2
            obtain ⟨t3, ok3⟩ := freeze t2 ok2 hi hx nF nM
            have hn2 : fs.map (·.1) = clF c' := by rw [hn, c3, List.take_length]
            exact ⟨rfl, q _ μ H1 (.ref x) t3 ok3 (.ins upd_same hn2 ((ri.shrink (plain_refA c2)).mono (Sub.new nF) (.refl μ)))⟩
          · exact (show False from q).elim
        · exact (show False from q).elim
    | own _ => exact (show False from q).elim
    | bor _ => exact (show False from q).elim
    | od _ _ => exact (show False from q).elim
    | no => exact (show False from q).elim
    | oin _ _ => exact (show False from q).elim
end
section
variable {X : Cx} {W : WX} {c k : Nat} {f : Addr} {h : Fn} {kn x : Str} {e ge se : Expr} {es : List Expr} {fs : List Fe} {fg fse : Fe} {p pos kp sp_ : Pos}
theorem run_mk {pins : List (Addr × Obj)} {σ : L2.St} {H F : Hp} {μ : List Addr} {S : Ms} {s : Shared} {Q : VK} {us : List Value} {ws : List V} {gv : V} {ug : Value} {os : List D} {g : Sl} (M : Mk X.K (cA X.K c) f) (J : FnI X.prog X.w X.K X.mg X.base (L2.CX X.prog X.w) k f kn (spF X.K 3 h)) (hr : Room (k + 1) X.A) (tk : Takes X W)
    (I : Inv X pins σ H s) (r : Vals ws us) (rg : RelV gv ug) (o : Ok X.K F μ S H) (ro : RpA X.K F μ ws os) (hz : os.length ≤ cap) (ag : AR X.K F μ H gv g) (q : OF X.K F μ H Q (WE W σ) (mkR c h os g S)) :
    wpAny (model X.prog X.w) X.A (call (.ref (cA X.K c)) us ([kn].zip [ug])) (EP X pins σ Q) X.xe s := by
  have hx0 := I.hok.fresh (Nat.le_succ s.heap.objs.size)
  have hd0 := I.hok.fresh (Nat.le_refl s.heap.objs.size)
  have I2 := Inv.made (C := cA X.K c) I
  refine wpAny_call (make_map (f := f) I.kIn M.makes M.init (beq_iff_eq.mp M.fn) (codeAny_mono (J _ X.stack _ _ (.ref (s.heap.objs.size + 1)) gv ws (.ref (s.heap.objs.size + 1)) ug us (fun v H2 => v = .non ∧ Q (.ref (s.heap.objs.size + 1)) H2) (WE W σ) (hr.make (cA X.K c) us [(kn, ug)])
    (I2.env0.make (cA X.K c) us [(kn, ug)]) rfl r rg (by rw [ro.len]; exact cap_le hz) fun pp hp => mk_of o ro ag hx0 hd0 (Nat.ne_of_lt (Nat.lt_succ_self _)) hp q) fun r s' hq' => ?_))
  cases r with
  | error e => exact passAt tk σ pins _ _ e s' I2 hq'
  | ok fl =>
    cases fl with
    | ret u =>
      obtain ⟨v, H', I3, rv, ev, q3⟩ := I2.after hq'
      subst ev
      exact ⟨rv, ⟨V.ref (s.heap.objs.size + 1), H', I3, rfl, q3⟩⟩
    | next => exact False.elim hq'
    | brk => exact False.elim hq'
    | cont => exact False.elim hq'
theorem kw_of {K : PySem.W.Frag} {σ : L2.St} {H : Hp} {Q : List V → Hp → Prop} (hw : wA K W (fA [fg]) σ H Q) : tCons (wE K W fg) tNil σ H Q := by
  have q := cons_of hw
  obtain ⟨B, F, μ, S, δ, hs, ho⟩ := q
  refine ⟨B, F, μ, S, δ, hs, ?_⟩
  cases e : fg δ S with
  | st => rw [e] at ho; exact ho
  | ex x S1 => rw [e] at ho; exact ho
  | ok s S1 => rw [e] at ho; exact fun F' μ' H' v t o r => nil_of (ho F' μ' H' v t o r)
theorem se_make (M : Mk X.K (cA X.K c) f) (J : FnI X.prog X.w X.K X.mg X.base (L2.CX X.prog X.w) k f kn (spF X.K 3 h)) (hr : Room (k + 1) X.A) (hg : Gl X x) (hm : X.mg x = some (.ref (cA X.K c))) (tk : Takes X W) (ha : SA X W (e :: es) (fA fs)) (hge : SE X W ge fg)
    (hall : (backToKw pos (keywordEach [⟨some kn, ge, kp⟩] X.env)).all (·.1.isSome) = true := by rfl) (hks : (backToKw pos (keywordEach [⟨some kn, ge, kp⟩] X.env)).filterMap (·.1) = [kn] := by rfl) (hdb : (x == ("__debug__" : Str)) = false := by decide)
    (he : starEach (e :: es) X.env = (false, eval e X.env) :: starEach es X.env := by rfl) (hpl : ((backTo pos (starEach (e :: es) X.env)).any (·.1) || (backToKw pos (keywordEach [⟨some kn, ge, kp⟩] X.env)).any (·.1.isNone)) = false := by rfl) :
    SE X W (.Call (.Name x p) (e :: es) [⟨some kn, ge, kp⟩] pos) (eMake c h fs fg) := by
  refine ⟨fun pins s σ H Q I hw => ?_⟩
  obtain ⟨B, F, μ, S, δ, hs, ho⟩ := hw
  refine wpAny_Call_Name_kw (ld_glob I hg hm ?_ hdb)
  refine PySem.W.callWith_KW (h₀ := X.base) I.ok.mod.kin M.kp hall (thn (ha.run pos pins s σ H (fun vs H1 => ∃ F1 μ1 S1 os, StR X.K B F1 μ1 S1 δ σ H1 ∧ RpA X.K F1 μ1 vs os ∧ os.length ≤ cap ∧ OE X.K W F1 μ1 H1 σ δ Q ((fA [fg] δ S1).bind fun gs S => (match gs with
      | [g] => mkR c h os g S
      | _ => .st))) I ?_) fun us s1 ⟨vs, H1, I1, r, F1, μ1, S1, os, h1, r1, hz, o1⟩ => ?_) hpl he
  · refine wA_bind (G := fun F μ H r => OE X.K W F μ H σ δ Q r) hs (fun _ _ h => h) (fun h => h) (fun _ _ _ _ t h => OE.go t h) ho fun ss S1 F1 μ1 H1 vs t1 h1 r1 o1 => ?_
    split at o1
    · rename_i os q
      split at o1
      · rename_i hz
        exact ⟨F1, μ1, S1, os, h1, plA_rp q r1, hz, o1⟩
      · exact o1.elim
    · exact o1.elim
  · refine thn ((pk_cons hge pk_nil).run pos pins s1 σ H1 (fun zs H2 => ∃ F2 μ2 S2 gv g, zs = [gv] ∧ StR X.K B F2 μ2 S2 δ σ H2 ∧ AR X.K F2 μ2 H2 gv g ∧ Stp F1 μ1 H1 F2 μ2 H2 ∧ OE X.K W F2 μ2 H2 σ δ Q (mkR c h os g S2)) I1 (kw_of ?_)) fun ws s2 ⟨zs, H2, I2, rz, F2, μ2, S2, gv, g, ez, h2, ag, t2, o2⟩ => ?_
    · refine wA_bind (G := fun F μ H r => OE X.K W F μ H σ δ Q r) h1 (fun _ _ h => h) (fun h => h) (fun _ _ _ _ t h => OE.go t h) o1 fun ss S2 F2 μ2 H2 vs2 t2 h2 r2 o2 => ?_
      split at o2
      · cases VAs.ar h2 r2 with
        | cons a rest =>
          cases rest
          exact ⟨F2, μ2, S2, _, _, rfl, h2, a, t2, o2⟩
      · exact o2.elim
    · subst ez
      cases rz with
      | cons rg rest =>
        cases rest
        refine ⟨I2.kIn, ?_⟩
        rw [hks]
        exact run_mk M J hr tk I2 r rg h2.ok (r1.mono t2.fr t2.mu) hz ag (OF.call (vs := []) (as := []) h2 o2)
theorem se_makeS (M : Mk X.K (cA X.K c) f) (J : FnI X.prog X.w X.K X.mg X.base (L2.CX X.prog X.w) k f kn (spF X.K 3 h)) (hr : Room (k + 1) X.A) (hg : Gl X x) (hm : X.mg x = some (.ref (cA X.K c))) (tk : Takes X W) (hse : SE X W se fse) (hge : SE X W ge fg)
    (hall : (backToKw pos (keywordEach [⟨some kn, ge, kp⟩] X.env)).all (·.1.isSome) = true := by rfl) (hks : (backToKw pos (keywordEach [⟨some kn, ge, kp⟩] X.env)).filterMap (·.1) = [kn] := by rfl) (hdb : (x == ("__debug__" : Str)) = false := by decide)
    (hst : starEach [.Starred se sp_] X.env = [(true, eval se X.env)] := by rfl) :
    SE X W (.Call (.Name x p) [.Starred se sp_] [⟨some kn, ge, kp⟩] pos) (eMakeS c h fse fg) := by
  refine ⟨fun pins s σ H Q I hw => ?_⟩
  obtain ⟨B, F, μ, S, δ, hs, ho⟩ := hw
  refine wpAny_Call_Name_kw (ld_glob I hg hm ?_ hdb)
  rw [hst]
  refine callK_of (P := X.K.In) rfl (PySem.W.keeps_K M.kp) (lone_kw hall (thn (hse.run pins s σ H (fun y H1 => ∃ F1 μ1 S1 d, StR X.K B F1 μ1 S1 δ σ H1 ∧ VD X.K σ δ F1 μ1 y d ∧ OE X.K W F1 μ1 H1 σ δ Q ((fA [fg] δ S1).bind fun gs S => match seqD d, gs with
      | some os, [g] => if os.length ≤ cap then mkR c h os g S else .st
      | _, _ => .st)) I (wE_rd hs ho fun d S1 F1 μ1 H1 v t1 h1 v1 o1 => ⟨F1, μ1, S1, d, h1, v1, o1⟩)) fun u s1 ⟨y, H1, I1, ry, F1, μ1, S1, d, h1, v1, o1⟩ => ?_))
  refine thn ((pk_cons hge pk_nil).run pos pins s1 σ H1 (fun zs H2 => ∃ F2 μ2 S2 gv g os a ws, zs = [gv] ∧ StR X.K B F2 μ2 S2 δ σ H2 ∧ AR X.K F2 μ2 H2 gv g ∧ y = .ref a ∧ (SqT X.K H2 a ws ∨ SqL X.K H2 a ws) ∧ RpA X.K F2 μ2 ws os ∧ os.length ≤ cap ∧ OE X.K W F2 μ2 H2 σ δ Q (mkR c h os g S2)) I1 (kw_of ?_)) fun ws s2 ⟨zs, H2, I2, rz, F2, μ2, S2, gv, g, os, a, xs, ez, h2, ag, ey, hx, ro, hz, o2⟩ => ?_
  · refine wA_bind (G := fun F μ H r => OE X.K W F μ H σ δ Q r) h1 (fun _ _ h => h) (fun h => h) (fun _ _ _ _ t h => OE.go t h) o1 fun ss S2 F2 μ2 H2 vs2 t2 h2 r2 o2 => ?_
    split at o2
    · rename_i os g eo
      split at o2
      · rename_i hz
        cases VAs.ar h2 r2 with
        | cons ag rest =>
          cases rest
          have rr := (v1.go t2).rr h2
          cases d <;> simp only [seqD, reduceCtorEq, Option.some.injEq] at eo
          case lst ys =>
            subst eo
            obtain ⟨p, ws, ev, hp, ro⟩ := rr.lst h2.ok.sub
            exact ⟨F2, μ2, S2, _, _, ys, p, ws, rfl, h2, ag, ev, .inr (SqL.of hp), ro, hz, o2⟩
          case tup ys =>
            subst eo
            obtain ⟨p, ws, ev, hp, ro⟩ := rr.tup h2.ok.sub
            exact ⟨F2, μ2, S2, _, _, ys, p, ws, rfl, h2, ag, ev, .inl hp, ro, hz, o2⟩
      · exact o2.elim
    · exact o2.elim
  · subst ez ey
    obtain rfl : u = Value.ref a := ry
    refine star_any I2 hx fun us s3 I3 rv => ⟨I3.kIn, ?_⟩
    cases rz with
    | cons rg rest =>
      cases rest
      rw [hks]
      exact run_mk M J hr tk I3 rv rg h2.ok ro hz ag (OF.call (vs := []) (as := []) h2 o2)
theorem se_ccon {y : Str} {n : Int} {u mc : Value} {p1 : Pos} (hg : Gl X x) (hm : X.mg x = some (.ref (cA X.K c))) (hr : CRead X.K (cA X.K c) mc) (hv : CVal X.K (cA X.K c) mc y (.int n) u) (hd : (x == ("__debug__" : Str)) = false := by decide)
    (hb : attributeBase (.Name x p1) y X.env (eval (.Name x p1) X.env) = eval (.Name x p1) X.env := by rfl) : SE X W (.Attribute (.Name x p1) y pos) (eC (.int n)) :=
  PE.imp (pe_cval (pe_glob (v := .ref (cA X.K c)) hg hm rfl hd) hb) fun σ H Q ⟨B, F, μ, S, δ, hs, ho⟩ => ⟨_, mc, _, u, rfl, hr, hv, ho.same hs.ok (.int n)⟩
end
end Gt
set_option Elab.async false
set_option linter.all false
set_option maxRecDepth 100000
namespace Gt
open PySem PySem.Spec PyProof.Rows L2 RZ StX
def keyM (e : Int × Value) : Key := match e.2 with
  | .int k _ => .inl k
  | .str x _ => .inr x
  | _ => .inl 0
def GoodM (w : World) (e : Int × Value) : Prop := ∃ k : Key, RelV (kV k) e.2 ∧ e.1 = keyH w k
def SetM (w : World) (h : Heap) (a : Addr) (S : Key → Bool) (n : Nat) : Prop :=
  ∃ o es ep t, h.get? a = some o ∧ o.ExactSet ∧ o.data = .set es ep t ∧ (∀ e ∈ es.toList, GoodM w e) ∧ (es.toList.map keyM).Nodup ∧ (∀ k, S k = true ↔ k ∈ es.toList.map keyM) ∧
    es.size < scanBound ∧ t.fits es.size = true ∧ es.size = n ∧ Ris t.place.toList ∧ (w.params.followText "set-order" = true ∨ t.led = true)
section
variable {P : Program} {w : World} {h h' : Heap} {a : Addr} {S : Key → Bool} {n : Nat}
theorem SetM.at (R : SetM w h a S n) (k : ∀ o, h.get? a = some o → h'.get? a = some o) : SetM w h' a S n := by
  obtain ⟨o, es, ep, t, ho, r⟩ := R
  exact ⟨o, es, ep, t, k o ho, r⟩
theorem SetM.congr {S' : Key → Bool} {m : Nat} (R : SetM w h a S n) (e : ∀ k, S' k = S k) (em : m = n) : SetM w h a S' m := by
  have q : S' = S := funext e
  rw [q, em]; exact R
theorem goodM_key {e : Int × Value} {k : Key} (r : RelV (kV k) e.2) : keyM e = k := by
  unfold keyM
  cases k with
  | inl i => obtain ⟨t, h⟩ := r; rw [h]
  | inr x => obtain ⟨t, h⟩ := r; rw [h]
theorem goodM_elems {l : List (Int × Value)} (g : ∀ e ∈ l, GoodM w e) : ElemsOf (mixKind P w) l := fun e he => by
  obtain ⟨k, h1, h2⟩ := g e he
  exact ⟨⟨k, kV_is h1, h2⟩, key_scan h1⟩
theorem goodM_is {e : Int × Value} (g : GoodM w e) (k : Key) : (mixKind P w).is k e.2 = true ↔ keyM e = k := by
  obtain ⟨k0, r, _⟩ := g
  rw [goodM_key r]
  constructor
  · intro h
    exact (mixKind P w).inj _ _ _ (kV_is r) h
  · intro h
    subst h
    exact kV_is r
theorem goodM_mem {l : List (Int × Value)} (g : ∀ e ∈ l, GoodM w e) (k : Key) : k ∈ l.map keyM ↔ ∃ e ∈ l, (mixKind P w).is k e.2 = true := by
  rw [List.mem_map]
  constructor
  · rintro ⟨e, he, q⟩
    exact ⟨e, he, (goodM_is (g e he) k).2 q⟩
  · rintro ⟨e, he, q⟩
    exact ⟨e, he, (goodM_is (g e he) k).1 q⟩
end
section
variable {P : Program} {w : World} {A : Around} {E : Value → Shared → Prop} {s : Shared} {a : Addr} {S : Key → Bool} {n : Nat}
theorem setM_add_tail {g : Bool → Sem Unit} (hg : ∀ (b : Bool) (s₁ : Shared) (Q' : Unit → Shared → Prop), Q' () s₁ → wpAny (model P w) A (g b) Q' E s₁)
    {o : Obj} {es : Array (Int × Value)} {ep : Nat} {t : SetTable} (ho : s.heap.get? a = some o) (hex : o.ExactSet) (hd : o.data = .set es ep t)
    {es1 : Array (Int × Value)} {t2 : SetTable} {S' : Key → Bool} (g1 : ∀ e ∈ es1.toList, GoodM w e) (nd1 : (es1.toList.map keyM).Nodup) (m1 : ∀ k, S' k = true ↔ k ∈ es1.toList.map keyM)
    (hb1 : es1.size < scanBound) (hf2 : t2.fits es1.size = true) (hr : Ris t2.place.toList) (hl : w.params.followText "set-order" = true ∨ t2.led = true) {wasDummy : Bool} {R : Option Bool → Shared → Prop}
    (hR : ∀ h', Heap.SameBut a s.heap h' → SetM w h' a S' es1.size → R (some true) { s with heap := h' }) :
    wpAny (model P w) A (do
        storeSet a es1 t2
        if (!wasDummy && t2.tooFull) = true then do
            g (relayAll t2 es1 (SetTable.grown es1.size)).2.2
            storeSet a (relayAll t2 es1 (SetTable.grown es1.size)).1 (relayAll t2 es1 (SetTable.grown es1.size)).2.1
            pure (some true)
          else pure (some true)) R E s := by
  refine wpAny_bind (wpAny_storeSet_of ho hd ?_ (fits_of_scanBound hb1))
  have ho1 := store_at (es' := es1) (t' := t2) ho hd
  have sb1 := Heap.SameBut.update s.heap a (Obj.putSet es1 t2)
  split
  · have pm := relayAll_perm t2 es1 (SetTable.grown es1.size)
    have hf3 := relayAll_fits t2 es1 (SetTable.grown es1.size)
    have hr3 := relayAll_ris t2 es1 (SetTable.grown es1.size)
    have hl3 := relayAll_led t2 es1 (SetTable.grown es1.size)
    generalize relayAll t2 es1 (SetTable.grown es1.size) = Z at pm hf3 hr3 hl3 ⊢
    obtain ⟨es2, t3, gave⟩ := Z
    dsimp only at pm hf3 hr3 hl3 ⊢
    have hsz : es2.size = es1.size := by rw [← Array.length_toList, pm.length_eq, Array.length_toList]
    have hb2 : es2.size < scanBound := by rw [hsz]; exact hb1
    refine wpAny_bind (hg _ _ _ ?_)
    refine wpAny_bind (wpAny_storeSet_of ho1 rfl ?_ (fits_of_scanBound hb2))
    have ho2 := store_at (es' := es2) (t' := t3) ho1 rfl
    refine wpAny_pure (hR _ (sb1.trans (Heap.SameBut.update _ a _)) ?_)
    exact ⟨_, es2, _, t3, ho2, hex, rfl, fun e he => g1 e (pm.mem_iff.mp he), (pm.map keyM).nodup_iff.mpr nd1, fun k => (m1 k).trans (pm.map keyM).mem_iff.symm, hb2, hf3, hsz, hr3,
      hl.imp id fun z => by rw [hl3]; exact z⟩
  · exact wpAny_pure (hR _ sb1 ⟨_, es1, _, t2, ho1, hex, rfl, g1, nd1, m1, hb1, hf2, rfl, hr, hl⟩)
theorem setM_add_hashed {k : Key} {v : Value} {Q : Bool → Shared → Prop} (rv : RelV (kV k) v) (R : SetM w s.heap a S n) (room : n + 1 < scanBound)
    (hQ : ∀ h', Heap.SameBut a s.heap h' → SetM w h' a (fun j => S j || decide (j = k)) (if S k = true then n else n + 1) → Q (!S k) { s with heap := h' }) :
    wpAny (model P w) A (setAddHashed a v ((mixKind P w).hash k)) Q E s := by
  obtain ⟨o, es, ep, t, ho, hex, hd, g, nd, hm, hb, hf, hn, hr, hl⟩ := R
  have hkey : (mixKind P w).is k v = true := kV_is rv
  have hsc : v.scannable = true := key_scan rv
  have hel : ElemsOf (mixKind P w) es.toList := goodM_elems g
  unfold setAddHashed setAddHashedIn
  refine wpAny_holding (wpAny_bind (wpAny_setState_of ho hd hf ?_))
  dsimp only
  rw [byScan_of hsc hb hel]
  simp only [↓reduceIte]
  unfold setAddByScan
  refine wpAny_bind ?_
  refine wpAny_bind (wpAny_rule ?_)
  refine wpAny_bind (wpAny_setScan_of hkey ho hd hf hel ?_)
  cases hfi : List.findIdx? (fun e => (mixKind P w).is k e.2) es.toList with
  | some j =>
    dsimp only
    obtain ⟨hj, pj, _⟩ := List.findIdx?_eq_some_iff_getElem.mp hfi
    have hSk : S k = true := (hm k).2 ((goodM_mem (P := P) (w := w) g k).2 ⟨es.toList[j], List.getElem_mem hj, pj⟩)
    refine wpAny_pure (wpAny_pure ?_)
    have q := hQ s.heap (Heap.SameBut.refl a s.heap) ⟨o, es, ep, t, ho, hex, hd, g, nd, fun i => by
      rw [Bool.or_eq_true, decide_eq_true_eq, ← hm i]
      exact ⟨fun z => z.elim id (fun e => e ▸ hSk), .inl⟩, hb, hf, by rw [if_pos hSk]; exact hn, hr, hl⟩
    rw [hSk] at q
    exact q
  | none =>
    dsimp only
    have hnk : k ∉ es.toList.map keyM := fun z => by
      obtain ⟨e, he, q⟩ := (goodM_mem (P := P) (w := w) g k).1 z
      have c := List.findIdx?_eq_none_iff.mp hfi e he
      rw [q] at c
      cases c
    have hSk : S k = false := by
      cases q : S k with
      | false => rfl
      | true => exact absurd ((hm k).1 q) hnk
    have hgw : ∀ (b : Bool) {s₁ : Shared} {Q' : Unit → Shared → Prop}, Q' () s₁ → wpAny (model P w) A (match b with | true => rule "set.scan.the-table-gave-way" | false => pure ()) Q' E s₁ :=
      fun b s₁ Q' q => by cases b <;> first | exact wpAny_pure q | exact wpAny_rule q
    have pm := layNew_perm t es ((mixKind P w).hash k) v
    have hf1 := layNew_fits t es ((mixKind P w).hash k) v
    have hr1 := layNew_ris t es ((mixKind P w).hash k) v hr
    have hl1 := layNew_led t es ((mixKind P w).hash k) v
    generalize layNew t es ((mixKind P w).hash k) v = Z at pm hf1 hr1 hl1 ⊢
    obtain ⟨es1, t1, wasDummy, gave⟩ := Z
    dsimp only at pm hf1 hr1 hl1 ⊢
    rw [Array.toList_push] at pm
    have pc : es1.toList.Perm (((mixKind P w).hash k, v) :: es.toList) := pm.trans (List.perm_append_singleton _ _)
    have kk : keyM ((mixKind P w).hash k, v) = k := goodM_key (e := ((mixKind P w).hash k, v)) rv
    have pk : (es1.toList.map keyM).Perm (k :: es.toList.map keyM) := by
      have := pc.map keyM
      rw [List.map_cons, kk] at this
      exact this
    have g1 : ∀ e ∈ es1.toList, GoodM w e := fun e he => by
      rcases List.mem_cons.mp (pc.mem_iff.mp he) with z | z
      · rw [z]; exact ⟨k, rv, rfl⟩
      · exact g e z
    have nd1 : (es1.toList.map keyM).Nodup := pk.nodup_iff.mpr (List.nodup_cons.mpr ⟨hnk, nd⟩)
    have m1 : ∀ i, (S i || decide (i = k)) = true ↔ i ∈ es1.toList.map keyM := fun i => by
      rw [Bool.or_eq_true, decide_eq_true_eq, hm i, pk.mem_iff, List.mem_cons]
      exact Or.comm
    have hsz : es1.size = n + 1 := by rw [← Array.length_toList, pc.length_eq, List.length_cons, Array.length_toList, hn]
    have hb1 : es1.size < scanBound := by rw [hsz]; exact room
    have hled : w.params.followText "set-order" = true ∨ t1.led = true := hl.imp id fun z => by rw [hl1]; exact z
    have fin : ∀ h', Heap.SameBut a s.heap h' → SetM w h' a (fun j => S j || decide (j = k)) es1.size → Q true { s with heap := h' } := fun h' sb r => by
      have q := hQ h' sb
      rw [hSk] at q
      rw [hsz] at r
      exact q r
    refine wpAny_bind (hgw _ ?_)
    split
    · refine wpAny_bind ?_
      rw [hashByValue_scannable 8 hsc]
      refine wpAny_pure ?_
      refine setM_add_tail ?_ ho hex hd g1 nd1 m1 hb1 ?_ ?_ ?_ ?_
      · intro b s₁ Q' q; cases b <;> first | exact wpAny_pure q | exact wpAny_rule q
      · first | (split <;> first | exact hf1 | exact SetTable.fits_plain_off hf1) | exact hf1
      · first | (split <;> exact hr1) | exact hr1
      · first | (split <;> exact hled) | exact hled
      · intro h' sb r; dsimp only; exact wpAny_pure (fin h' sb r)
    · refine wpAny_bind (wpAny_pure ?_)
      simp only [↓reduceIte]
      refine setM_add_tail ?_ ho hex hd g1 nd1 m1 hb1 hf1 hr1 hled ?_
      · intro b s₁ Q' q; cases b <;> first | exact wpAny_pure q | exact wpAny_rule q
      · intro h' sb r; dsimp only; exact wpAny_pure (fin h' sb r)
theorem setM_fresh {h : Heap} (w : World) (hS : h.get? a = some { cls := .type "set", dict := none, data := .set #[] 0 (.fresh 0 0 (!w.params.followText "set-order")) }) : SetM w h a (fun _ => false) 0 :=
  ⟨_, #[], 0, _, hS, ⟨rfl, rfl, rfl⟩, rfl, (fun e he => by simp at he), (by simp), (fun k => by simp), (by decide), (by rfl), rfl, List.Pairwise.nil, by
    show _ ∨ (!w.params.followText "set-order") = true
    cases w.params.followText "set-order"
    · exact .inr rfl
    · exact .inl rfl⟩
def memK (ks : List Key) (i : Nat) : Key → Bool := fun j => (ks.take i).any fun x => decide (x = j)
def cntK (ks : List Key) : Nat → Nat
  | 0 => 0
  | i + 1 => match ks[i]? with
    | some k => if memK ks i k = true then cntK ks i else cntK ks i + 1
    | none => cntK ks i
theorem cntK_le (ks : List Key) : ∀ i, cntK ks i ≤ i
  | 0 => Nat.le_refl 0
  | i + 1 => by
    unfold cntK
    have := cntK_le ks i
    split
    · split <;> omega
    · omega
theorem memK_succ {ks : List Key} {i : Nat} {k : Key} (h : ks[i]? = some k) (j : Key) : memK ks (i + 1) j = (memK ks i j || decide (j = k)) := by
  unfold memK
  have e : ks.take (i + 1) = ks.take i ++ [k] := by
    rw [List.take_succ, h]
    rfl
  rw [e, List.any_append]
  congr 1
  rw [List.any_cons, List.any_nil, Bool.or_false]
  exact decide_eq_decide.mpr eq_comm
theorem setM_loop {I : Addr} {fp wr : List Addr} {G : Array GenState → Array GenState → Prop} {n : Nat} {Pv : Nat → Value → Prop} {St : Nat → Shared → Prop} {R : Result → Shared → Prop}
    (W : WalksS P w A.in1 I fp wr G n Pv St) (S : Addr) (hSf : S ∉ fp) (ks : List Key) (hn : ks.length = n) (hfew : n + 1 < scanBound) (hval : ∀ i v, Pv i v → ∃ k, ks[i]? = some k ∧ RelV (kV k) v) :
    ∀ (k i : Nat) (s : Shared), n - i = k → i ≤ n → St i s → SetM w s.heap S (memK ks i) (cntK ks i) →
      (∀ s', Moved (S :: wr) G s s' → SetM w s'.heap S (memK ks n) (cntK ks n) → R (.ok (.ret .none)) s') →
      codeAny (model P w) A (.builtin "set.update.loop" ⟨[.ref S, .ref I], []⟩) R s := by
  have hSw : S ∉ wr := fun h => hSf (W.sub _ h)
  have hsub : ∀ b ∈ wr, b ∈ S :: wr := fun b hb => List.mem_cons_of_mem _ hb
  intro k
  induction k with
  | zero =>
    intro i s hk' hi hst hS hR
    have hin : i = n := by omega
    subst hin
    refine codeAny_builtin F.entry_set_update_loop ?_
    rw [Around.under_plainId F.plain_set_update_loop _]
    show wpAny _ A.in1 (pyNext (.ref I) >>= _) _ _ s
    refine wpAny_bind (W.done s _ _ hst fun s' hm => ?_)
    show wpAny _ A.in1 (ret Value.none) _ _ s'
    exact wpAny_pure (hR s' (hm.mono hsub) (hS.at fun o e => hm.heap S o hSw e))
  | succ k ih =>
    intro i s hk' hi hst hS hR
    have hlt : i < n := by omega
    refine codeAny_builtin F.entry_set_update_loop ?_
    rw [Around.under_plainId F.plain_set_update_loop _]
    show wpAny _ A.in1 (pyNext (.ref I) >>= _) _ _ s
    refine wpAny_bind (W.item i s _ _ hlt hst fun v s' hP hst' hm => ?_)
    obtain ⟨p, hp, rv⟩ := hval i v hP
    have hS' : SetM w s'.heap S (memK ks i) (cntK ks i) := hS.at fun o e => hm.heap S o hSw e
    show wpAny _ A.in1 (holding [v] (setAdd S v) >>= _) _ _ s'
    refine wpAny_bind (wpAny_holding ?_)
    unfold setAdd
    refine wpAny_holding ?_
    refine wpAny_bind ((mixKind P w).pyHash (kV_is rv) ?_)
    refine setM_add_hashed (s := { s' with toks := s'.toks + 1 }) rv hS' (by have := cntK_le ks i; omega) fun h' hsb hS2 => ?_
    have hSi : SetM w h' S (memK ks (i + 1)) (cntK ks (i + 1)) := hS2.congr (fun j => memK_succ hp j) (by
      show cntK ks (i + 1) = _
      rw [cntK, hp])
    refine wpAny_pure ⟨plainId_quiet F.plain_set_update_loop _, ih (i + 1) _ (by omega) hlt (W.frame _ s' _ _ hst' (Nat.le_add_right _ _) fun b hb o e => ?_) hSi fun s'' hm'' hS'' => ?_⟩
    · rw [hsb.2 b (fun h : b = S => hSf (by rw [← h]; exact hb))]; exact e
    · refine hR s'' (Moved.trans W.gtrans ((hm.mono hsub).then_heap (Nat.le_add_right _ _) fun b o hb e => ?_) hm'') hS''
      rw [hsb.2 b (fun h : b = S => hb (by rw [h]; exact List.mem_cons_self))]; exact e
end
section
variable {P : Program} {w : World} {A : Around} {E : Value → Shared → Prop} {s : Shared}
set_option maxRecDepth 100000 in
set_option maxHeartbeats 3200000 in
theorem call_setM_list {l : Addr} {items : Array Value} (ks : List Key) {Q : Value → Shared → Prop} (hh : A.handled = none) (hl : s.heap.IsList l items) (hisz : items.size = ks.length) (hval : ∀ (i : Nat) (v : Value), items[i]? = some v → ∃ k, ks[i]? = some k ∧ RelV (kV k) v)
    (hfew : ks.length + 1 < scanBound)
    (h : ∀ (h' : Heap) (tk : Nat), SetM w h' s.heap.objs.size (memK ks ks.length) (cntK ks ks.length) → (∀ b o, s.heap.get? b = some o → h'.get? b = some o) → Q (.ref s.heap.objs.size) { s with heap := h', toks := tk }) :
    wpAny (model P w) A (call (.type "set") [.ref l]) Q E s := by
  obtain ⟨c, tl, hmro⟩ := F.called_set.mro
  have hmade := F.called_set.made
  have hsub := F.called_set.sub
  refine wpAny_call (codeAny_of_tree ?_)
  show wpAny _ _ (callAny (.type "set") _) _ _ _
  refine wpAny_pure ⟨Code.quiet_builtin _ (by decide +kernel), codeAny_builtin F.entry_type_call ?_⟩
  rw [Around.under_plain (weight_type_call_type "set" [.ref l] []) rfl]
  have h1 := F.called_set.notType
  have h2 := F.called_set.canCreate
  have hct := F.typeCall_set_1 (.ref l)
  repeat (any_goals (first | assumption | wp_step))
  refine codeAny_mono (code_set_led1 (.ref l) (E := E) (Q₁ := fun obj s₁ => obj = .ref s.heap.objs.size ∧ s₁ = { s with heap := s.heap.push { cls := .type "set", dict := none, data := .set #[] 0 (.fresh 0 0 (!w.params.followText "set-order")) } }) ⟨rfl, rfl⟩) fun r s₁ hr => ?_
  cases r with
  | error e => exact hr
  | ok fl =>
    cases fl with
    | ret obj =>
      obtain ⟨rfl, rfl⟩ := hr
      have hS : (s.heap.push { cls := .type "set", dict := none, data := .set #[] 0 (.fresh 0 0 (!w.params.followText "set-order")) }).get? s.heap.objs.size = some { cls := .type "set", dict := none, data := .set #[] 0 (.fresh 0 0 (!w.params.followText "set-order")) } := Heap.get?_push_size _ rfl
      have hT : Shared.TypeIs { s with heap := s.heap.push { cls := .type "set", dict := none, data := .set #[] 0 (.fresh 0 0 (!w.params.followText "set-order")) } } (.ref s.heap.objs.size) "set" := ⟨_, hS, rfl⟩
      have hli := F.called_set.init.lookup
      have hbi := F.called_set.init.bind (.ref s.heap.objs.size)
      repeat (any_goals (first | assumption | wp_step))
      refine codeAny_mono (codeAny_call_builtin (R := wants (fun r s₂ => r = .none ∧ ∃ h' tk, s₂ = { s with heap := h', toks := tk } ∧ SetM w h' s.heap.objs.size (memK ks ks.length) (cntK ks ks.length) ∧
          (∀ b o, s.heap.get? b = some o → h'.get? b = some o)) E) F.called_set.init.plain F.entry_set_init (check_set_init_1 hT ?_)) fun r₂ s₂ hr₂ => ?_
      · obtain ⟨ol, hol, hcl, nl, hdl⟩ := hl
        obtain ⟨ocls, odict, odata, oslots⟩ := ol
        simp only at hcl hdl
        subst hcl; subst hdl
        have hol' : (s.heap.push { cls := .type "set", dict := none, data := .set #[] 0 (.fresh 0 0 (!w.params.followText "set-order")) }).get? l = some { cls := .type "list", dict := odict, data := .seq items nl, slots := oslots } := Heap.get?_push_of_some _ hol
        have hsls := F.sub_list_set
        have hslf := F.sub_list_frozenset
        have hne : (Value.type "list" == Value.type "dict") = false := by decide
        have hl1 : (s.heap.push { cls := .type "set", dict := none, data := .set #[] 0 (.fresh 0 0 (!w.params.followText "set-order")) }).IsList l items := ⟨_, hol', rfl, nl, rfl⟩
        unfold Builtin.«set.__init__» noKeywords Builtin.Frozenset.updateFrom
        generalize hPI : pyIter = PI
        wp_walk
        subst hPI
        refine wpAny_pyIter_list hl1 ?_
        refine wpAny_bind (wpAny_runValue ?_)
        have hlS : l < s.heap.objs.size := Heap.lt_size hol
        have hh3 : A.in1.in1.in1.handled = none := by simp [hh]
        have hneI : l ≠ (s.heap.push { cls := .type "set", dict := none, data := .set #[] 0 (.fresh 0 0 (!w.params.followText "set-order")) }).objs.size := by
          rw [Heap.size_push]; exact Nat.ne_of_lt (Nat.lt_succ_of_lt hlS)
        have hSf : s.heap.objs.size ∉ [(s.heap.push { cls := .type "set", dict := none, data := .set #[] 0 (.fresh 0 0 (!w.params.followText "set-order")) }).objs.size, l] := by
          rw [Heap.size_push]; simp only [List.mem_cons, List.mem_singleton, List.not_mem_nil, or_false, not_or]
          exact ⟨Nat.ne_of_lt (Nat.lt_succ_self _), Nat.ne_of_gt hlS⟩
        refine setM_loop ((Walks.list hh3 _ l hneI items).toS) s.heap.objs.size
          hSf ks hisz.symm (by rw [hisz]; exact hfew) hval (items.size - 0) 0 _ (by omega) (Nat.zero_le _)
          ⟨⟨_, Heap.get?_push_size _ rfl, rfl, rfl⟩, (hl1.push _)⟩ ?hS0 ?hR
        case hS0 =>
          have hget : ((s.heap.push { cls := .type "set", dict := none, data := .set #[] 0 (.fresh 0 0 (!w.params.followText "set-order")) }).push { cls := .type "list_iterator", data := .fields #[.ref l, .int 0 0] }).get? s.heap.objs.size
              = some { cls := .type "set", dict := none, data := .set #[] 0 (.fresh 0 0 (!w.params.followText "set-order")) } := Heap.get?_push_of_some _ hS
          exact (setM_fresh w hget).congr (fun j => by simp [memK]) rfl
        case hR =>
          intro s' hm hS'
          obtain ⟨h', g2, d', tk', os'⟩ := s'
          have eg : g2 = s.gens := hm.gens
          have ed : d' = s.drawn := hm.drawn
          have eo : os' = s.os := hm.os
          subst eg; subst ed; subst eo
          show wpAny _ _ _ _ _ _
          refine wpAny_pure ?_
          show wpAny _ _ (ret Value.none) _ _ _
          rw [hisz] at hS'
          refine wpAny_pure ⟨rfl, h', tk', rfl, hS', fun b o e => ?_⟩
          have hb := Heap.lt_size e
          have hb1 : b ≠ s.heap.objs.size := Nat.ne_of_lt hb
          have hb2 : b ≠ (s.heap.push { cls := .type "set", dict := none, data := .set #[] 0 (.fresh 0 0 (!w.params.followText "set-order")) }).objs.size := by
            rw [Heap.size_push]; exact Nat.ne_of_lt (Nat.lt_succ_of_lt hb)
          exact hm.heap b o (by simp only [List.mem_cons, List.mem_singleton, List.not_mem_nil, or_false, not_or]; exact ⟨hb1, hb2⟩) (Heap.get?_push_of_some _ (Heap.get?_push_of_some _ e))
      · cases r₂ with
        | error e => exact hr₂
        | ok fl₂ =>
          cases fl₂ with
          | ret r =>
            obtain ⟨rfl, h', tk, rfl, hS', hk'⟩ := hr₂
            repeat (any_goals (first | assumption | wp_step))
            exact h _ _ hS' hk'
          | _ => exact hr₂.elim
    | _ => exact hr.elim
set_option maxRecDepth 100000 in
set_option maxHeartbeats 3200000 in
theorem call_setM_tuple {l : Addr} {items : Array Value} (ks : List Key) {Q : Value → Shared → Prop} (hh : A.handled = none) (hl : s.heap.IsTuple l items) (hisz : items.size = ks.length) (hval : ∀ (i : Nat) (v : Value), items[i]? = some v → ∃ k, ks[i]? = some k ∧ RelV (kV k) v)
    (hfew : ks.length + 1 < scanBound)
    (h : ∀ (h' : Heap) (tk : Nat), SetM w h' s.heap.objs.size (memK ks ks.length) (cntK ks ks.length) → (∀ b o, s.heap.get? b = some o → h'.get? b = some o) → Q (.ref s.heap.objs.size) { s with heap := h', toks := tk }) :
    wpAny (model P w) A (call (.type "set") [.ref l]) Q E s := by
  obtain ⟨c, tl, hmro⟩ := F.called_set.mro
  have hmade := F.called_set.made
  have hsub := F.called_set.sub
  refine wpAny_call (codeAny_of_tree ?_)
  show wpAny _ _ (callAny (.type "set") _) _ _ _
  refine wpAny_pure ⟨Code.quiet_builtin _ (by decide +kernel), codeAny_builtin F.entry_type_call ?_⟩
  rw [Around.under_plain (weight_type_call_type "set" [.ref l] []) rfl]
  have h1 := F.called_set.notType
  have h2 := F.called_set.canCreate
  have hct := F.typeCall_set_1 (.ref l)
  repeat (any_goals (first | assumption | wp_step))
  refine codeAny_mono (code_set_led1 (.ref l) (E := E) (Q₁ := fun obj s₁ => obj = .ref s.heap.objs.size ∧ s₁ = { s with heap := s.heap.push { cls := .type "set", dict := none, data := .set #[] 0 (.fresh 0 0 (!w.params.followText "set-order")) } }) ⟨rfl, rfl⟩) fun r s₁ hr => ?_
  cases r with
  | error e => exact hr
  | ok fl =>
    cases fl with
    | ret obj =>
      obtain ⟨rfl, rfl⟩ := hr
      have hS : (s.heap.push { cls := .type "set", dict := none, data := .set #[] 0 (.fresh 0 0 (!w.params.followText "set-order")) }).get? s.heap.objs.size = some { cls := .type "set", dict := none, data := .set #[] 0 (.fresh 0 0 (!w.params.followText "set-order")) } := Heap.get?_push_size _ rfl
      have hT : Shared.TypeIs { s with heap := s.heap.push { cls := .type "set", dict := none, data := .set #[] 0 (.fresh 0 0 (!w.params.followText "set-order")) } } (.ref s.heap.objs.size) "set" := ⟨_, hS, rfl⟩
      have hli := F.called_set.init.lookup
      have hbi := F.called_set.init.bind (.ref s.heap.objs.size)
      repeat (any_goals (first | assumption | wp_step))
      refine codeAny_mono (codeAny_call_builtin (R := wants (fun r s₂ => r = .none ∧ ∃ h' tk, s₂ = { s with heap := h', toks := tk } ∧ SetM w h' s.heap.objs.size (memK ks ks.length) (cntK ks ks.length) ∧
          (∀ b o, s.heap.get? b = some o → h'.get? b = some o)) E) F.called_set.init.plain F.entry_set_init (check_set_init_1 hT ?_)) fun r₂ s₂ hr₂ => ?_
      · obtain ⟨ol, hol, hcl, nl, hdl⟩ := hl
        obtain ⟨ocls, odict, odata, oslots⟩ := ol
        simp only at hcl hdl
        subst hcl; subst hdl
        have hol' : (s.heap.push { cls := .type "set", dict := none, data := .set #[] 0 (.fresh 0 0 (!w.params.followText "set-order")) }).get? l = some { cls := .type "tuple", dict := odict, data := .seq items nl, slots := oslots } := Heap.get?_push_of_some _ hol
        have hsls := F.sub_tuple_set
        have hslf := F.sub_tuple_frozenset
        have hne : (Value.type "tuple" == Value.type "dict") = false := by decide
        have hl1 : (s.heap.push { cls := .type "set", dict := none, data := .set #[] 0 (.fresh 0 0 (!w.params.followText "set-order")) }).IsTuple l items := ⟨_, hol', rfl, nl, rfl⟩
        unfold Builtin.«set.__init__» noKeywords Builtin.Frozenset.updateFrom
        generalize hPI : pyIter = PI
        wp_walk
        subst hPI
        refine wpAny_pyIter_tuple hl1 ?_
        refine wpAny_bind (wpAny_runValue ?_)
        have hlS : l < s.heap.objs.size := Heap.lt_size hol
        have hh3 : A.in1.in1.in1.handled = none := by simp [hh]
        have hneI : l ≠ (s.heap.push { cls := .type "set", dict := none, data := .set #[] 0 (.fresh 0 0 (!w.params.followText "set-order")) }).objs.size := by
          rw [Heap.size_push]; exact Nat.ne_of_lt (Nat.lt_succ_of_lt hlS)
        have hSf : s.heap.objs.size ∉ [(s.heap.push { cls := .type "set", dict := none, data := .set #[] 0 (.fresh 0 0 (!w.params.followText "set-order")) }).objs.size, l] := by
          rw [Heap.size_push]; simp only [List.mem_cons, List.mem_singleton, List.not_mem_nil, or_false, not_or]
          exact ⟨Nat.ne_of_lt (Nat.lt_succ_self _), Nat.ne_of_gt hlS⟩
        refine setM_loop ((Walks.tuple hh3 _ l hneI items).toS) s.heap.objs.size
          hSf ks hisz.symm (by rw [hisz]; exact hfew) hval (items.size - 0) 0 _ (by omega) (Nat.zero_le _)
          ⟨⟨_, Heap.get?_push_size _ rfl, rfl, rfl⟩, (hl1.push _)⟩ ?hS0 ?hR
        case hS0 =>
          have hget : ((s.heap.push { cls := .type "set", dict := none, data := .set #[] 0 (.fresh 0 0 (!w.params.followText "set-order")) }).push { cls := .type "tuple_iterator", data := .fields #[.ref l, .int 0 0] }).get? s.heap.objs.size
              = some { cls := .type "set", dict := none, data := .set #[] 0 (.fresh 0 0 (!w.params.followText "set-order")) } := Heap.get?_push_of_some _ hS
          exact (setM_fresh w hget).congr (fun j => by simp [memK]) rfl
        case hR =>
          intro s' hm hS'
          obtain ⟨h', g2, d', tk', os'⟩ := s'
          have eg : g2 = s.gens := hm.gens
          have ed : d' = s.drawn := hm.drawn
          have eo : os' = s.os := hm.os
          subst eg; subst ed; subst eo
          show wpAny _ _ _ _ _ _
          refine wpAny_pure ?_
          show wpAny _ _ (ret Value.none) _ _ _
          rw [hisz] at hS'
          refine wpAny_pure ⟨rfl, h', tk', rfl, hS', fun b o e => ?_⟩
          have hb := Heap.lt_size e
          have hb1 : b ≠ s.heap.objs.size := Nat.ne_of_lt hb
          have hb2 : b ≠ (s.heap.push { cls := .type "set", dict := none, data := .set #[] 0 (.fresh 0 0 (!w.params.followText "set-order")) }).objs.size := by
            rw [Heap.size_push]; exact Nat.ne_of_lt (Nat.lt_succ_of_lt hb)
          exact hm.heap b o (by simp only [List.mem_cons, List.mem_singleton, List.not_mem_nil, or_false, not_or]; exact ⟨hb1, hb2⟩) (Heap.get?_push_of_some _ (Heap.get?_push_of_some _ e))
      · cases r₂ with
        | error e => exact hr₂
        | ok fl₂ =>
          cases fl₂ with
          | ret r =>
            obtain ⟨rfl, h', tk, rfl, hS', hk'⟩ := hr₂
            repeat (any_goals (first | assumption | wp_step))
            exact h _ _ hS' hk'
          | _ => exact hr₂.elim
    | _ => exact hr.elim
end
end Gt
set_option Elab.async false
set_option linter.all false
set_option maxRecDepth 100000
namespace Gt
open PySem PySem.Spec PyProof.Rows L2 RZ StX
def encK : Key → PyData
  | .inl i => .int i
  | .inr x => .str x
def kLe : Key → Key → Bool
  | .inl i, .inl j => decide (i ≤ j)
  | .inr x, .inr y => decide (x.cps.toList ≤ y.cps.toList)
  | .inl _, .inr _ => true
  | .inr _, .inl _ => false
def isIK : Key → Bool
  | .inl _ => true
  | _ => false
def isSK : Key → Bool
  | .inr _ => true
  | _ => false
def homK (ks : List Key) : Bool := ks.all isIK || ks.all isSK
def ddK : List Key → List Key
  | [] => []
  | k :: ks => if (ks.any fun x => decide (x = k)) then ddK ks else k :: ddK ks
def sortK (ks : List Key) : List Key := (ddK ks).mergeSort kLe
theorem mem_ddK : ∀ {ks : List Key} {k : Key}, k ∈ ddK ks ↔ k ∈ ks
  | [], _ => by simp [ddK]
  | x :: ks, k => by
    unfold ddK
    split
    · rename_i h
      rw [mem_ddK, List.mem_cons]
      constructor
      · exact .inr
      · intro z
        rcases z with z | z
        · subst z
          rw [List.any_eq_true] at h
          obtain ⟨y, hy, e⟩ := h
          rw [← of_decide_eq_true e]; exact hy
        · exact z
    · rw [List.mem_cons, List.mem_cons, mem_ddK]
theorem nodup_ddK : ∀ {ks : List Key}, (ddK ks).Nodup
  | [] => List.nodup_nil
  | x :: ks => by
    unfold ddK
    split
    · exact nodup_ddK
    · rename_i h
      refine List.nodup_cons.mpr ⟨fun z => h ?_, nodup_ddK⟩
      rw [List.any_eq_true]
      exact ⟨x, mem_ddK.mp z, decide_eq_true rfl⟩
theorem kLe_trans (a b c : Key) (h : kLe a b = true) (g : kLe b c = true) : kLe a c = true := by
  cases a <;> cases b <;> cases c <;> simp only [kLe, decide_eq_true_eq, reduceCtorEq, Bool.false_eq_true] at * <;> first | omega | exact List.le_trans h g | trivial
theorem kLe_total (a b : Key) : (kLe a b || kLe b a) = true := by
  cases a <;> cases b <;> simp only [kLe, Bool.or_true, Bool.true_or, Bool.or_eq_true, decide_eq_true_eq]
  · omega
  · exact List.le_total _ _
theorem kLe_anti (a b : Key) (h : kLe a b = true) (g : kLe b a = true) : a = b := by
  cases a <;> cases b <;> simp only [kLe, decide_eq_true_eq, reduceCtorEq, Bool.false_eq_true] at *
  · congr 1; omega
  · have e := List.le_antisymm h g
    rw [PySem.W.str_of_cps e]
theorem sortK_sorted (ks : List Key) : (sortK ks).Pairwise fun a b => kLe a b = true := List.pairwise_mergeSort kLe_trans kLe_total _
theorem sortK_perm (ks : List Key) : (sortK ks).Perm (ddK ks) := List.mergeSort_perm _ _
theorem mem_sortK {ks : List Key} {k : Key} : k ∈ sortK ks ↔ k ∈ ks := (sortK_perm ks).mem_iff.trans mem_ddK
theorem nodup_sortK {ks : List Key} : (sortK ks).Nodup := (sortK_perm ks).nodup_iff.mpr nodup_ddK
theorem hom_at {ks : List Key} (h : homK ks = true) {a b : Key} (ha : a ∈ ks) (hb : b ∈ ks) : (∃ i j, a = .inl i ∧ b = .inl j) ∨ ∃ x y, a = .inr x ∧ b = .inr y := by
  unfold homK at h
  rw [Bool.or_eq_true, List.all_eq_true, List.all_eq_true] at h
  rcases h with h | h
  · have h1 := h a ha
    have h2 := h b hb
    cases a <;> cases b <;> simp only [isIK, reduceCtorEq, Bool.false_eq_true] at h1 h2
    exact .inl ⟨_, _, rfl, rfl⟩
  · have h1 := h a ha
    have h2 := h b hb
    cases a <;> cases b <;> simp only [isSK, reduceCtorEq, Bool.false_eq_true] at h1 h2
    exact .inr ⟨_, _, rfl, rfl⟩
theorem dataLe_key {ks : List Key} (h : homK ks = true) {a b : Key} (ha : a ∈ ks) (hb : b ∈ ks) : PySem.W.dataLe false encK a b = kLe a b := by
  rw [PySem.W.dataLe_eq]
  rcases hom_at h ha hb with ⟨i, j, rfl, rfl⟩ | ⟨x, y, rfl, rfl⟩
  · show (!PySem.W.dataLt (.int j) (.int i)) = decide (i ≤ j)
    rw [PySem.W.dataLt_int, PySem.W.not_lt_int]
  · show (!PySem.W.dataLt (.str y) (.str x)) = decide (x.cps.toList ≤ y.cps.toList)
    rw [PySem.W.dataLt_str, PySem.W.not_lt_str]
theorem sort_unique {ks bs : List Key} (h : homK bs = true) (nd : bs.Nodup) (m : ∀ k, k ∈ bs ↔ k ∈ ks) : bs.mergeSort (PySem.W.dataLe false encK) = sortK ks := by
  have e : bs.mergeSort (PySem.W.dataLe false encK) = bs.mergeSort kLe := by
    have := List.map_mergeSort (r := PySem.W.dataLe false encK) (s := kLe) (f := id) (l := bs) fun a ha b hb => dataLe_key h ha hb
    simpa using this
  rw [e]
  have p : (bs.mergeSort kLe).Perm (sortK ks) := by
    refine (List.mergeSort_perm _ _).trans (List.Perm.trans ?_ (sortK_perm ks).symm)
    exact (List.perm_ext_iff_of_nodup nd nodup_ddK).mpr fun k => (m k).trans mem_ddK.symm
  exact List.Perm.eq_of_pairwise (fun a b _ _ h1 h2 => kLe_anti a b h1 h2) (List.pairwise_mergeSort kLe_trans kLe_total _) (sortK_sorted ks) p
theorem hom_sub {ks bs : List Key} (h : homK ks = true) (m : ∀ k, k ∈ bs → k ∈ ks) : homK bs = true := by
  unfold homK at h ⊢
  rw [Bool.or_eq_true, List.all_eq_true, List.all_eq_true] at h ⊢
  exact h.imp (fun z k hk => z k (m k hk)) fun z k hk => z k (m k hk)
theorem pres_of_keep {h h' : Heap} {v : Value} {k : Key} (r : RelV (kV k) v) : ∃ as, Reads h v (encK k) as := by
  cases k with
  | inl i => obtain ⟨t, rfl⟩ := r; exact ⟨[], .int i t⟩
  | inr x => obtain ⟨t, rfl⟩ := r; exact ⟨[], .str x t⟩
theorem keys_list : ∀ (vs : List Value), (∀ v ∈ vs, ∃ k, RelV (kV k) v) → PySem.W.EachIs (fun v k => RelV (kV k) v) vs (vs.map fun v => keyM (0, v))
  | [], _ => .nil
  | v :: vs, h => by
    obtain ⟨k, r⟩ := h v List.mem_cons_self
    refine .cons ?_ (keys_list vs fun u hu => h u (List.mem_cons_of_mem _ hu))
    show RelV (kV (keyM (0, v))) v
    rw [goodM_key (e := (0, v)) r]
    exact r
theorem vals_keys : ∀ {us : List Value} {ks : List Key}, PySem.W.EachIs (fun v k => RelV (kV k) v) us ks → Vals (ks.map kV) us
  | _, _, .nil => .nil
  | _, _, .cons h t => .cons h (vals_keys t)
theorem encK_depth (k : Key) : (encK k).depth = 0 := by
  cases k <;> rfl
section
variable {P : Program} {w : World} {A : Around} {E : Value → Shared → Prop} {s : Shared} {a : Addr} {S : Key → Bool} {n : Nat}
theorem sorted_setM {ks : List Key} {Q : Value → Shared → Prop} (R : SetM w s.heap a S n) (hS : ∀ k, S k = true ↔ k ∈ ks) (hom : homK ks = true) (hh : A.handled = none) (hu : A.units + 10 < cLine)
    (hQ : ∀ s' p out c, (∀ b o, s.heap.get? b = some o → s'.heap.get? b = some o) → s'.gens = s.gens → s'.os = s.os → s.heap.objs.size ≤ p →
      s'.heap.get? p = some (seqObj "list" (List.toArray out) c) → Vals ((sortK ks).map kV) out → (sortK ks).length ≤ sizeLine → Q (.ref p) s') :
    wpAny (model P w) A (call (.builtin "sorted") [.ref a]) Q E s := by
  obtain ⟨o, es, ep, t, ho, hex, hd, g, nd, hm, hb, hf, hn, hr, hl⟩ := R
  refine call_function_entry_kw kind_sorted plain_sorted entry_sorted (args_sorted1 _) ?_
  unfold Builtin.«sorted»
  refine wpAny_bind (m := checkCount "sorted" 1 1 _) (wpAny_pure ?_)
  refine wpAny_bind (collect_set (A := A.in1) hh ⟨o, ho, hex.1, hd⟩ hf hb hr hl fun s1 vs k1 hz g1 o1 pm => ?_)
  have hvk : ∀ v ∈ vs, ∃ k, RelV (kV k) v := fun v hv => by
    obtain ⟨e, he, q⟩ := List.mem_map.mp (pm.mem_iff.mp hv)
    obtain ⟨k, h1, _⟩ := g e he
    exact ⟨k, by rw [← q]; exact h1⟩
  have e := keys_list vs hvk
  have pk : (vs.map fun v => keyM (0, v)).Perm (es.toList.map keyM) := by
    have q := pm.map fun v => keyM (0, v)
    rw [List.map_map] at q
    exact q
  have hmem : ∀ k, k ∈ (vs.map fun v => keyM (0, v)) ↔ k ∈ ks := fun k => pk.mem_iff.trans ((hm k).symm.trans (hS k))
  have hom2 : homK (vs.map fun v => keyM (0, v)) = true := hom_sub hom fun k hk => (hmem k).mp hk
  have uq := sort_unique (ks := ks) hom2 (pk.nodup_iff.mpr nd) hmem
  have hvl : vs.length = n := by rw [pm.length_eq, List.length_map, Array.length_toList]; exact hn
  have hL2 : vs.length ≤ sizeLine := by
    rw [hvl, ← hn]
    exact fits_of_scanBound hb
  have hal : PySem.W.AllAlike ((vs.map fun v => keyM (0, v)).map encK) := by
    intro d1 h1 d2 h2
    obtain ⟨x1, m1, rfl⟩ := List.mem_map.mp h1
    obtain ⟨x2, m2, rfl⟩ := List.mem_map.mp h2
    rcases hom_at hom2 m1 m2 with ⟨i, j, rfl, rfl⟩ | ⟨i, j, rfl, rfl⟩ <;> rfl
  have hk : PySem.W.Sortable ((vs.map fun v => keyM (0, v)).map encK) := .inr fun d hd => by
    obtain ⟨x, _, rfl⟩ := List.mem_map.mp hd
    cases x <;> exact ⟨nofun, nofun⟩
  refine wpAny_bind (wpAny_newList ?_ hL2)
  have hoL : (s1.heap.push (seqObj "list" vs.toArray 0)).get? s1.heap.objs.size = some (seqObj "list" vs.toArray 0) := Heap.get?_push_size _ rfl
  have S := PySem.W.SortsAt.data (prog := P) (w := w) (A := A.in1.in1) (s := { s1 with heap := PySem.W.sortingHeap (s1.heap.push (seqObj "list" vs.toArray 0)) s1.heap.objs.size vs })
    (PySem.W.each_map (R := fun v d => ∃ as, Reads (PySem.W.sortingHeap (s1.heap.push (seqObj "list" vs.toArray 0)) s1.heap.objs.size vs) v d as) encK (e.mono fun v k r => pres_of_keep (h' := s1.heap) r)) hal hk (PySem.W.bound_map fun b hb => by rw [encK_depth]; show A.units + 1 + 1 + 0 < cLine; omega)
  have er : PySem.W.EachIs (fun v b => ∃ as, Reads (PySem.W.sortingHeap (s1.heap.push (seqObj "list" vs.toArray 0)) s1.heap.objs.size vs) v (encK b) as) vs (vs.map fun v => keyM (0, v)) := e.mono fun v k r => pres_of_keep (h' := s1.heap) r
  have so := PySem.W.sortVals_data false e er hal
  rw [uq] at so
  have hlen : (sortK ks).length ≤ sizeLine := by
    rw [← uq, List.length_mergeSort, List.length_map]
    exact hL2
  refine wpAny_bind (wpAny_holding (wpAny_call_entry_kw slot_list_sort ⟨_, hoL, rfl⟩ entry_list_sort ?body (args_list_sort _)))
  case body =>
    show wpAny (model P w) A.in1.in1 (Builtin.«list.sort» ⟨[.ref s1.heap.objs.size], []⟩) _ _ _
    obtain ⟨c, hc⟩ := sortedHeap_at (vs := vs) (out := (PySem.W.sortVals (PySem.W.dataKind (PySem.W.sortingHeap (s1.heap.push (seqObj "list" vs.toArray 0)) s1.heap.objs.size vs) ((vs.map fun v => keyM (0, v)).map encK)) false vs vs).toArray) hoL
    have hq := hQ { s1 with heap := sortedHeap (s1.heap.push (seqObj "list" vs.toArray 0)) s1.heap.objs.size vs (PySem.W.sortVals (PySem.W.dataKind (PySem.W.sortingHeap (s1.heap.push (seqObj "list" vs.toArray 0)) s1.heap.objs.size vs) ((vs.map fun v => keyM (0, v)).map encK)) false vs vs).toArray } s1.heap.objs.size _ c (fun b u e => by
      have q := k1 b u e
      have hlt := Heap.lt_size q
      show (sortedHeap (s1.heap.push (seqObj "list" vs.toArray 0)) s1.heap.objs.size vs _).get? b = some u
      rw [sortedHeap_old (Nat.ne_of_lt hlt) (by rw [size_push']; exact Nat.lt_succ_of_lt hlt)]
      exact Heap.get?_push_of_some _ q) g1 o1 hz hc (vals_keys so) hlen
    refine wpAny_mono (PySem.W.list_sort_vals (s := { s1 with heap := s1.heap.push (seqObj "list" vs.toArray 0) }) (P := fun f s' => f = .done (.ret .none) ∧ Q (.ref s1.heap.objs.size) s') hoL S hL2 ⟨rfl, hq⟩) (fun f s' hf => ?_) fun _ _ e => e
    obtain ⟨rfl, hq⟩ := hf
    exact ⟨_, rfl, wpAny_pure ⟨_, rfl, hq⟩⟩
end
def SetMO (w : World) (a : Addr) (S : Key → Bool) (n : Nat) : HO := .ext fun h => SetM w h a S n
theorem setMO_new {P : Program} {w : World} {H : Hp} {h : Heap} {a : Addr} {S : Key → Bool} {n : Nat} (R : SetM w h a S n) : ObjOk P w H h a (SetMO w a S n) := by
  have ⟨o, _, _, _, ho, _⟩ := R
  exact ⟨R, ⟨o, ho⟩, fun h1 h2 p k => SetM.at p k⟩
def rSetM (K : PySem.W.Frag) (w : World) : List V → Hp → VK → Prop := fun xs H Q => ∃ (l : Addr) (ks : List Key), xs = [.ref l] ∧ (SqL K H l (ks.map kV) ∨ SqT K H l (ks.map kV)) ∧ ks.length ≤ 4000 ∧ ∀ a, H a = none → Q (.ref a) (upd H a (SetMO w a (memK ks ks.length) (cntK ks ks.length)))
def rSortedM (w : World) : List V → Hp → VK → Prop := fun vs H Q => ∃ (a : Addr) (S : Key → Bool) (n : Nat) (ks : List Key), vs = [.ref a] ∧ H a = some (SetMO w a S n) ∧ (∀ k, S k = true ↔ k ∈ ks) ∧ homK ks = true ∧ ∀ p, H p = none → Q (.ref p) (upd H p (.lst ((sortK ks).map kV)))
theorem keys_at : ∀ {ks : List Key} {us : List Value}, Vals (ks.map kV) us → ∀ (i : Nat) (v : Value), us[i]? = some v → ∃ k, ks[i]? = some k ∧ RelV (kV k) v
  | [], _, .nil, i, v, h => by simp at h
  | k :: ks, _, .cons r t, 0, v, h => by simp at h; subst h; exact ⟨k, rfl, r⟩
  | k :: ks, _, .cons r t, i + 1, v, h => by simpa using keys_at t i v (by simpa using h)
section
variable {X : Cx}
theorem cr_setM (hc : X.calm = true) : CallR X (.type "set") (rSetM X.K X.w) := by
  intro pins s σ H xs us Q I r h
  obtain ⟨l, ks, rfl, hl, hf, q⟩ := h
  rw [Vals.ref1 r]
  have hn : H s.heap.objs.size = none := I.hok.fresh (Nat.le_refl _)
  have hsc : ks.length + 1 < scanBound := by unfold scanBound; omega
  have fin : ∀ (h' : Heap) (tk : Nat), SetM X.w h' s.heap.objs.size (memK ks ks.length) (cntK ks ks.length) → (∀ b o, s.heap.get? b = some o → h'.get? b = some o) → EP X pins σ Q (.ref s.heap.objs.size) { s with heap := h', toks := tk } := fun h' tk R k =>
    ⟨.ref s.heap.objs.size, upd H s.heap.objs.size (SetMO X.w s.heap.objs.size (memK ks ks.length) (cntK ks ks.length)), I.laid (t' := tk) k (Nat.le_refl _) (setMO_new R), rfl, q _ hn⟩
  rcases hl with hl | hl
  · obtain ⟨its, rv, pl, hz⟩ := I.list hl
    exact call_setM_list (P := X.prog) (w := X.w) ks (I.ok.hd hc) pl.isList (by have := rv.length; simp at this; simp; omega) (fun i v hv => keys_at rv i v (by simpa using hv)) hsc fin
  · obtain ⟨its, rv, pl, hz⟩ := I.tuple hl
    exact call_setM_tuple (P := X.prog) (w := X.w) ks (I.ok.hd hc) (show s.heap.IsTuple l its.toArray from pl) (by have := rv.length; simp at this; simp; omega) (fun i v hv => keys_at rv i v (by simpa using hv)) hsc fin
theorem cr_sortedM (hc : X.calm = true) (hu : X.A.units + 10 < cLine) : CallR X (.builtin "sorted") (rSortedM X.w) := by
  intro pins s σ H vs us Q I r h
  obtain ⟨a, S, n, ks, rfl, ha, hS, hom, q⟩ := h
  have R : SetM X.w s.heap a S n := (I.hok a _ ha).1
  rw [Vals.ref1 r]
  refine sorted_setM (P := X.prog) R hS hom (I.ok.hd hc) hu fun s' p out c k g o hp hg hv hlen => ?_
  have hn : H p = none := I.hok.fresh hp
  have J : Inv X pins σ (upd H p (.lst ((sortK ks).map kV))) { s with heap := s'.heap, gens := s'.gens, drawn := s'.drawn, toks := s'.toks } :=
    I.call (ch := []) (Un.laid k hp hn) (I.hok.laid k hp ⟨by rw [List.length_map]; exact hlen, out, c, hv, hg⟩) (by rw [g]; exact I.bare) (fun _ z => nomatch z)
  have e : s' = { s with heap := s'.heap, gens := s'.gens, drawn := s'.drawn, toks := s'.toks } := by
    cases s'
    cases s
    cases o
    rfl
  rw [e]
  exact ⟨.ref p, _, J, rfl, q p hn⟩
end
theorem memK_all (ks : List Key) (k : Key) : memK ks ks.length k = true ↔ k ∈ ks := by
  unfold memK
  rw [List.take_length, List.any_eq_true]
  constructor
  · rintro ⟨x, hx, e⟩
    rw [← of_decide_eq_true e]; exact hx
  · exact fun h => ⟨k, h, decide_eq_true rfl⟩
def keysD : List D → Option (List Key)
  | [] => some []
  | .int i :: r => (keysD r).map (.inl i :: ·)
  | .str x :: r => (keysD r).map (.inr x :: ·)
  | _ :: _ => none
def sortSetS : List D → Option Sl
  | [d] => match seqD d with
    | some xs => match keysD xs with
      | some ks => if homK ks = true ∧ ks.length ≤ 4000 then some (.own ((sortK ks).map keyD)) else none
      | none => none
    | none => none
  | _ => none
section
variable {K : PySem.W.Frag} {F H : Hp} {μ : List Addr} {S : Ms}
theorem keysD_vs : ∀ {ds : List D} {ks : List Key} {vs : List V}, keysD ds = some ks → RpA K F μ vs ds → vs = ks.map kV
  | _, _, _, e, .nil => by cases e; rfl
  | d :: ds, ks, _, e, .cons h r => by
    cases d <;> simp only [keysD, reduceCtorEq] at e
    case int b =>
      cases q : keysD ds with
      | none => rw [q] at e; cases e
      | some cs =>
        rw [q] at e
        cases e
        cases h
        rw [keysD_vs q r]
        rfl
    case str b =>
      cases q : keysD ds with
      | none => rw [q] at e; cases e
      | some cs =>
        rw [q] at e
        cases e
        cases h
        rw [keysD_vs q r]
        rfl
theorem RpA.keys : ∀ (ks : List Key), RpA K F μ (ks.map kV) (ks.map keyD)
  | [] => .nil
  | .inl i :: ks => .cons (.int i) (RpA.keys ks)
  | .inr x :: ks => .cons (.str x) (RpA.keys ks)
end
section
variable {X : Cx} {W : WX} {e : Expr} {f : Fe} {pos p p2 q2 : Pos} {k : Nat}
theorem cut2 {K : PySem.W.Frag} {σ : L2.St} {H : Hp} {Q : List V → Hp → Prop} {f : Fe} (h : wA K W (fA [f]) σ H Q) : wA K W (fA [f]) σ H Q := h
theorem se_sortSet (hr : Room k X.A) (hc : X.calm = true) (hg : Gl X "sorted") (hm : X.mg "sorted" = none) (hg2 : Gl X "set") (hm2 : X.mg "set" = none) (ha : SA X W [e] (fA [f]))
    (he : starEach [.Call (.Name "set" p2) [e] [] q2] X.env = (false, eval (.Call (.Name "set" p2) [e] [] q2) X.env) :: starEach [] X.env := by rfl) (he2 : starEach [e] X.env = (false, eval e X.env) :: starEach [] X.env := by rfl) :
    SE X W (.Call (.Name "sorted" p) [.Call (.Name "set" p2) [e] [] q2] [] pos) (eCall sortSetS [f]) :=
  PE.imp (pe_callB (cr_sortedM hc (by have := hr.un; omega)) hg hm (by decide +kernel) (pa_cons (pe_callTy (cr_setM hc) hg2 hm2 (by decide +kernel) ha (by decide) (by decide) he2 (by rfl)) pa_nil he) (by decide) (by decide) he (by rfl)) fun σ H Q ⟨B, F, μ, S, δ, hs, ho⟩ => by
    refine wA_bind (G := fun F μ H r => OE X.K W F μ H σ δ Q r) hs (fun _ _ h => h) (fun h => h) (fun _ _ _ _ t h => OE.go t h) ho fun ss S1 F1 μ1 H1 vs t1 h1 r1 o1 => ?_
    cases e1 : toDs ss with
    | none => rw [e1] at o1; exact o1.elim
    | some ds =>
      rw [e1] at o1
      dsimp only at o1
      cases e2 : sortSetS ds with
      | none => rw [e2] at o1; exact o1.elim
      | some s =>
        rw [e2, lift_some] at o1
        have rr := toDs_rr h1 e1 r1
        unfold sortSetS at e2
        split at e2
        · rename_i d
          obtain ⟨v, rfl, rv⟩ := rrs1 rr
          split at e2
          · rename_i xs exs
            split at e2
            · rename_i ks eks
              split at e2
              · rename_i hh
                cases e2
                have fin : ∀ (l : Addr) (ws : List V), v = .ref l → (SqL X.K H1 l ws ∨ SqT X.K H1 l ws) → RpA X.K F1 μ1 ws xs → rSetM X.K X.w [v] H1 fun x H2 => tNil σ H2 fun ys H3 => rSortedM X.w (x :: ys) H3 Q := fun l ws ev hl ra => by
                  have ew := keysD_vs eks ra
                  subst ew
                  refine ⟨l, ks, by rw [ev], hl, hh.2, fun a han => ⟨a, _, _, ks, rfl, upd_same, memK_all ks, hh.1, fun p hp => ?_⟩⟩
                  have t2 := Stp.new h1.ok (u := SetMO X.w a (memK ks ks.length) (cntK ks ks.length)) han
                  have o2 := h1.ok.new (u := SetMO X.w a (memK ks ks.length) (cntK ks ks.length)) han
                  have o3 := OE.go t2 o1
                  have t3 := Stp.new o2 (u := .lst ((sortK ks).map kV)) hp
                  exact o3 F1 μ1 _ _ t3 (o2.new hp) ⟨p, _, rfl, upd_same, RpA.keys _, (o2.free hp).1, (o2.free hp).2, hp⟩
                cases d <;> simp only [seqD, reduceCtorEq, Option.some.injEq] at exs
                case lst ys =>
                  subst exs
                  obtain ⟨l, ws, ev, hl, ra⟩ := rv.lst h1.ok.sub
                  exact fin l ws ev (.inl (SqL.of hl)) ra
                case tup ys =>
                  subst exs
                  obtain ⟨l, ws, ev, hl, ra⟩ := rv.tup h1.ok.sub
                  exact fin l ws ev (.inr hl) ra
              · cases e2
            · cases e2
          · cases e2
        · cases e2
end
end Gt
set_option Elab.async false
set_option linter.all false
set_option maxRecDepth 100000
namespace Gt
open PySem PySem.Spec PyProof.Rows L2 RZ StX
structure FnOkG (P : Program) (w : World) (K : PySem.W.Frag) (mg : Str → Option Value) (base : Heap) (CX : CXT) (k : Nat) (f : Addr) (fd : FuncData) (ps : List Str) (sp : Sp) : Prop where
  len : ∀ vs H Q E, sp vs H Q E → vs.length = ps.length
  run : ∀ (A : Around) (outer : List Env) (s : Shared) (H : Hp) (args : Args) (us : List Value) (vs : List V) (Q : VK) (E : XK), Room k A → A.guards = some [] → Env0 P w K mg base A outer s H → BindsTo s fd args (ps.zip us) → Vals vs us → sp vs H Q E →
    codeAny (model P w) A (.call (.ref f) args) (CR CX outer P w H s Q E) s
theorem FnOkG.mono {P : Program} {w : World} {K : PySem.W.Frag} {mg : Str → Option Value} {base : Heap} {CX : CXT} {j k : Nat} {f : Addr} {fd : FuncData} {ps : List Str} {sp : Sp} (F : FnOkG P w K mg base CX j f fd ps sp) (h : j ≤ k) :
    FnOkG P w K mg base CX k f fd ps sp := ⟨F.len, fun A outer s H args us vs Q E hr => F.run A outer s H args us vs Q E (hr.mono h)⟩
theorem fnG_of {CX : CXT} {P : Program} {w : World} {K : PySem.W.Frag} {mg : Str → Option Value} {base : Heap} {k : Nat} {f : Addr} {name qual : Str} {params : Arguments} {body : List Stmt} {scope : Scope} {dV kV doc pm cdv ct oc : Value} {an od : Option Addr}
    {osl : Array (Option Value)} {N ps : List Str} {sp : Sp} (lk : K.lookup f = some ⟨oc, od, .func (PySem.W.fnOf name qual params body scope dV kV doc pm an cdv ct), osl⟩) (hcd : PySem.W.codeIn K cdv qual = true) (S : FnScope N ps scope)
    (len : ∀ vs H Q E, sp vs H Q E → vs.length = ps.length)
    (hbody : ∀ (A : Around) (outer : List Env) (s : Shared) (H : Hp) (vs : List V) (Q : VK) (E : XK), Room k (A.deeper (envOfC qual scope s.heap.objs.size f cdv)) → (A.deeper (envOfC qual scope s.heap.objs.size f cdv)).guards = some [] → sp vs H Q E →
      ∃ t, PSs (cxOf CX P w K mg base N qual scope f cdv A outer s H E) body t ∧ t { nx := fun _ H' => Q .non H', rt := Q } (start N vs) H) :
    FnOkG P w K mg base CX (k + 1) f (PySem.W.fnOf name qual params body scope dV kV doc pm an cdv ct) ps sp := by
  refine ⟨len, fun A outer s H args us vs Q E hr gd e0 hb r hsp => ?_⟩
  have hl := len _ _ _ _ hsp
  have KX : K.In s.heap := e0.mod.kin.keeps fun b o e => (e0.bs b o e).1
  have lim : s.heap.NoLimit := e0.mod.nolimit.keeps fun b o e => (e0.bs b o e).1
  have hkind : ∀ y ∈ ps.zip us, scope.names.lookup y.1 = some .local ∨ (scope.names.lookup y.1 = some .cell ∧ ((cellsFrom (s.heap.objs.size + 1) scope.names []).lookup y.1).isSome = true) := fun ⟨n, v⟩ hy => by
    rcases S.par n (List.of_mem_zip hy).1 with q | q
    · exact .inl q
    · exact .inr ⟨q, PySem.W.cellsFrom_some _ _ _ (.inl q)⟩
  refine codeAny_call_function hr.depth (KX _ _ lk) rfl S.co S.gen rfl (PySem.W.codeRec_of KX hcd) (hb _ _ _ _ ?_)
  refine wpAny_newFunctionEnv_cells S.kind hkind fun env he s1 x => ?_
  subst he
  refine ⟨lim.keeps x.toInCall.keep, codeAny_func ?_⟩
  obtain ⟨t, ht, hq⟩ := hbody A outer s H vs Q E (hr.deeper _) gd hsp
  have I : Inv (cxOf CX P w K mg base N qual scope f cdv A outer s H E) [] (start N vs) H s1 := inv_start S hr.hd e0 hl r x
  refine wpAny_mono (ht.run [] s1 (start N vs) H _ I hq) (fun fl s' hs => ?_) fun e s' hs => hs
  have fin : ∀ {σ' : L2.St} {H' : Hp} {v : V} {u : Value}, Inv (cxOf CX P w K mg base N qual scope f cdv A outer s H E) [] σ' H' s' → RelV v u → Q v H' → CE outer P w H s Q u s' :=
    fun {σ' H' v u} J rv q => ⟨v, H', J.os, J.bare, J.base, J.hok, rv, q⟩
  cases fl with
  | ret u =>
    obtain ⟨v, σ', H', J, rv, q⟩ := hs
    exact fin J rv q
  | next =>
    obtain ⟨σ', H', J, q⟩ := hs
    exact fin (v := V.non) (u := Value.none) J rfl q
  | brk =>
    obtain ⟨_, _, _, q⟩ := hs
    exact False.elim q
  | cont =>
    obtain ⟨_, _, _, q⟩ := hs
    exact False.elim q
theorem fn_okG {P : Program} {w : World} {K : PySem.W.Frag} {mg : Str → Option Value} {base : Heap} {x qual : Str} {params : Arguments} {bd : List Stmt} {sc : Scope} {dvs : List V} {kws : List (Str × V)} {f : Addr} {fd : FuncData} {N ps : List Str} {k : Nat} {body : Fs} (F : L2.FunD K x qual params bd sc dvs kws f fd) (S : FnScope N ps sc)
    (hl : ps.length ≤ N.length) (hb : ∀ (cdv : Value) (A : Around) (outer : List Env) (s : Shared) (H : Hp) (E : XK), Room k (A.deeper (envOfC qual sc s.heap.objs.size f cdv)) → (A.deeper (envOfC qual sc s.heap.objs.size f cdv)).guards = some [] → SL (cxOf (L2.CX P w) P w K mg base N qual sc f cdv A outer s H E) (WD E) bd body) :
    FnOkG P w K mg base (L2.CX P w) (k + 1) f fd ps (spF K ps.length (runB body N.length)) := by
  obtain ⟨oc, od, dV, kV, doc, pm, an, cdv, ct, osl, rfl, lk, hcd, _, _⟩ := F.ex
  exact fnG_of lk hcd S (fun _ _ _ _ h => spF_len h) fun A outer s H vs Q E hr gd h => ⟨_, hb cdv A outer s H E hr gd, body_of hl h⟩
section
variable {X : Cx} {W : WX} {pos p : Pos} {f : Addr} {fd : FuncData} {ps : List Str} {k : Nat} {x : Str} {e : Expr} {es : List Expr} {fs : List Fe} {h : Fn} {n : Nat}
theorem se_fnG (F : FnOkG X.prog X.w X.K X.mg X.base (L2.CX X.prog X.w) k f fd ps (spF X.K n h)) (hr : Room k X.A) (gd : X.A.guards = some []) (hg : Gl X x) (hm : X.mg x = some (.ref f)) (hk : PySem.W.keepIn X.K (.ref f) = true) (hb : Binds X.K fd ps []) (hn : fs.length = n) (tk : Takes X W)
    (ha : SA X W (e :: es) (fA fs)) (hdb : (x == ("__debug__" : Str)) = false := by decide) (he : starEach (e :: es) X.env = (false, eval e X.env) :: starEach es X.env := by rfl) (hpl : (backTo pos (starEach es X.env)).any (·.1) = false := by rfl) :
    SE X W (.Call (.Name x p) (e :: es) [] pos) (eFn h [] fs) := by
  refine ⟨fun pins s σ H Q I hw => ?_⟩
  have hw2 := call_of (dvs := []) (dd := []) .nil (by simpa using hn) hw
  refine wpAny_Call_Name_kw (ld_glob I hg hm ?_ hdb)
  refine PySem.W.callWith_K (h₀ := X.base) I.ok.mod.kin hk (thn (ha.run pos pins s σ H _ I hw2) fun us s1 ⟨vs, H1, I1, r, q⟩ => ⟨I1.kIn, ?_⟩) he hpl
  have q : spF X.K n h vs H1 Q (WE W σ) := by
    have q2 : spF X.K n h (vs ++ []) H1 Q (WE W σ) := q
    rwa [List.append_nil] at q2
  have hl : us.length = ps.length := by rw [← r.length]; exact F.len _ _ _ _ q
  refine wpAny_call (codeAny_mono (F.run X.A X.stack s1 H1 ⟨us, []⟩ us vs Q (WE W σ) hr gd I1.env0 (by have := hb s1 us I1.kIn (by simpa using hl); simpa using this) r q) fun r s' hq => ?_)
  cases r with
  | error e => exact passAt tk σ pins H1 s1 e s' I1 hq
  | ok fl =>
    cases fl with
    | ret u => exact I1.after hq
    | next => exact False.elim hq
    | brk => exact False.elim hq
    | cont => exact False.elim hq
end
theorem law_callG {P : Program} {w : World} {K : PySem.W.Frag} {mg mb : Str → Option Value} {CX : CXT} {k : Nat} {fa a : Addr} {fd : FuncData} {x : Str} {sp : Sp} {s₁ : Shared} {vs : List Value} {ns : List Int}
    (KX : K.In s₁.heap) (hns : s₁.heap.Ns mainGlobals mg) (hb : s₁.heap.Ns builtinsNs mb) (hbb : ∀ x : Str, x ≠ "__name__" → mb x = bootBuiltins x) (hlim : s₁.heap.NoLimit) (hg : s₁.gens = #[])
    (ha : s₁.heap.get? a = some { cls := .type "list", data := .seq vs.toArray }) (hi : IntsAre vs ns) (hl : ns.length ≤ sizeLine) (hr : Room k callerA)
    (F : ∀ base : Heap, K.In base → base.Ns mainGlobals mg → FnOkG P w K mg base CX k fa fd [x] sp) (hbind : ∀ (s : Shared) (u : Value), BindsTo s fd ⟨[u], []⟩ [(x, u)])
    (hsp : ∀ H : Hp, Only H → SqL K H a (ns.map V.int) → sp [.ref a] H (fun v _ => v = .bl true) fun _ _ _ => False)
    (hCX : ∀ H e s', CX [] H s₁ (fun _ _ _ => False) e s' → False) :
    codeAny (model P w) callerA (.call (.ref fa) ⟨[.ref a], []⟩) (fun r s' => r = .ok (.ret (.bool true)) ∧ OldK s₁.heap s'.heap ∧ s'.os = s₁.os ∧ AllBare s'.gens) s₁ := by
  have rv := vals_ints hi
  have lenV := hi.length
  have core : ∀ H : Hp, Only H → SqL K H a (ns.map V.int) → HOk P w H s₁.heap → (∀ b, H b ≠ none → b = a) → (H a ≠ none → K.lookup a = none) →
      codeAny (model P w) callerA (.call (.ref fa) ⟨[.ref a], []⟩) (fun r s' => r = .ok (.ret (.bool true)) ∧ OldK s₁.heap s'.heap ∧ s'.os = s₁.os ∧ AllBare s'.gens) s₁ := by
    intro H hO hS hok hA hK
    have base_of : ∀ {b : Addr} {o : Obj}, s₁.heap.get? b = some o → H b = none → (hidT s₁.heap H).get? b = some o := fun e n => hidT_get e n
    have noA : ∀ {b : Addr} {o : Obj} {es : Array DictEntry} {ep : Nat}, s₁.heap.get? b = some o → o.data = .dict es ep → H b = none := fun {b o es ep} e d => by
      cases q : H b with
      | none => rfl
      | some u =>
        have e' : b = a := hA b (by rw [q]; simp)
        subst e'
        rw [ha] at e; cases e
        have d' : Data.seq vs.toArray _ = Data.dict es ep := d
        cases d'
    have nsK : ∀ {b : Addr} {m : Str → Option Value}, s₁.heap.Ns b m → (hidT s₁.heap H).Ns b m := fun {b m} ⟨o, es, ep, e, d, r⟩ => ⟨o, es, ep, base_of e (noA e d), d, r⟩
    have hKb : K.In (hidT s₁.heap H) := fun b o e => base_of (KX b o e) (by
      cases q : H b with
      | none => rfl
      | some u =>
        have e' : b = a := hA b (by rw [q]; simp)
        subst e'
        rw [hK (by rw [q]; simp)] at e; cases e)
    have hM : Mod K mg (hidT s₁.heap H) := ⟨hKb, nsK hns, ⟨mb, nsK hb, hbb⟩, let ⟨mc, h1, h2⟩ := hlim; ⟨mc, nsK h1, h2⟩⟩
    have e0 : Env0 P w K mg (hidT s₁.heap H) callerA [] s₁ H := ⟨rfl, hM, fun b o e => of_hidT e, Nat.le_of_eq (hidT_size _ _), trivial, fun b hb => absurd (show b ∈ ([] : List Addr) from hb) (by simp), hok, .of_eq hg⟩
    refine codeAny_mono ((F _ hKb (nsK hns)).run callerA [] s₁ H ⟨[.ref a], []⟩ [.ref a] [.ref a] _ _ hr rfl e0 (hbind s₁ (.ref a)) (.cons rfl .nil) (hsp H hO hS)) fun r s' h => ?_
    cases r with
    | error e => exact (hCX H e s' h).elim
    | ok fl =>
      cases fl with
      | next => exact False.elim h
      | brk => exact False.elim h
      | cont => exact False.elim h
      | ret u =>
        obtain ⟨v, H', os, bare, un, hok', r', q⟩ := h
        have q' : v = .bl true := q
        subst q'
        obtain rfl : u = Value.bool true := r'
        refine ⟨rfl, OldK.of_keep fun b o e => ?_, os, bare⟩
        cases q : H b with
        | none => exact un.keep b o e q (by intro z; exact absurd (show b ∈ ([] : List Addr) from z) (by simp)) (by simp)
        | some u =>
          rcases hO b with z | ⟨ob, xs, z⟩
          · rw [q] at z; cases z
          · have z2 := un.frzs b ob _ z
            obtain ⟨e1, _⟩ := hok b _ z
            obtain ⟨e2, _⟩ := hok' b _ z2
            rw [e] at e1; cases e1
            exact e2
  cases hk : K.lookup a with
  | some o =>
    have e := KX a o hk
    rw [ha] at e
    cases e
    refine core (fun _ => none) (fun _ => .inl rfl) (.inr ⟨_, vs.toArray, _, hk, rfl, rfl, rfl, by rw [List.size_toArray, lenV]; exact hl, by simpa using rv⟩) (fun b u z => by have z' : (none : Option HO) = some u := z; cases z') (fun b z => absurd rfl z) fun z => absurd rfl z
  | none =>
    refine core (fun b => if b = a then some (.frz { cls := .type "list", data := .seq vs.toArray } (.lst (ns.map V.int))) else none) (fun b => ?_) (.inl (.inr ⟨{ cls := .type "list", data := .seq vs.toArray }, if_pos rfl⟩)) (fun b u z => ?_) (fun b z => ?_) fun _ => hk
    · by_cases hb : b = a
      · exact .inr ⟨_, _, if_pos hb⟩
      · exact .inl (if_neg hb)
    · by_cases hb : b = a
      · have z' := (if_pos hb).symm.trans z
        cases z'
        subst hb
        exact ⟨ha, by rw [List.length_map]; exact hl, vs, _, rv, ha⟩
      · have z' := (if_neg hb).symm.trans z
        cases z'
    · by_cases hb : b = a
      · exact hb
      · exact absurd (if_neg hb) z
theorem walk_ofG {l : PySem.W.OpenLaw} {n k : Nat} {q : Program} {loose : List Str} {XP : (Str → Option Value) → Heap → Prop} {YP : World → Heap → Prop} {d : DefRec} {CX : World → CXT} {x : Str}
    (hn : l.most = some n) (hn2 : n ≤ sizeLine) (hdf : d.params.defaults = []) (hr : Room k callerA)
    (F : ∀ (w : World) (mg : Str → Option Value) (fa : Addr) (h : Heap), YP w h → h.Ns mainGlobals mg → mg d.name = some (.ref fa) →
      ∃ (K : PySem.W.Frag) (fd : FuncData) (sp : Sp), K.In h ∧ (∀ (s : Shared) (u : Value), BindsTo s fd ⟨[u], []⟩ [(x, u)]) ∧
        (∀ (H : Hp) (a : Addr) (ns : List Int), ns.length ≤ n → Only H → SqL K H a (ns.map V.int) → sp [.ref a] H (fun v _ => v = .bl true) fun _ _ _ => False) ∧
        ∀ base : Heap, K.In base → base.Ns mainGlobals mg → FnOkG l.prog w K mg base (CX w) k fa fd [x] sp)
    (hCX : ∀ (w : World) (H : Hp) (s : Shared) (e : Value) (s' : Shared), CX w [] H s (fun _ _ _ => False) e s' → False) :
    PySem.W.WalkO q loose XP YP l.row.toRowW d [] (fun f vs => PySem.call f vs) := by
  refine Att.attach_call hn hdf fun w s₀ s₁ mg mb fa o pm cd doc a vs ns G Y ho hd hcd hmg hobj hints hlen hg => ?_
  obtain ⟨K, fd, sp, KX, hb, hsp, hF⟩ := F w mg fa _ Y G.T.g hmg
  exact law_callG KX G.T.g G.T.b G.T.builtins G.T.nolimit hg hobj hints (Nat.le_trans hlen hn2) hr hF hb (fun H hO hS => hsp H a ns hlen hO hS) fun H e s' => hCX w H s₁ e s'
theorem cx_no {P : Program} (w : World) (H : Hp) (s : Shared) (e : Value) (s' : Shared) (h : L2.CX P w [] H s (fun _ _ _ => False) e s') : False := by
  obtain ⟨_, _, _, _, _, _, _, _, _, _, _, _, z⟩ := h
  exact z
theorem toG {P : Program} {w : World} {K : PySem.W.Frag} {mg : Str → Option Value} {base : Heap} {CX : CXT} {k : Nat} {f : Addr} {fd : FuncData} {ps : List Str} {sp : Sp} (F : FnOk P w K mg base CX k f fd ps sp) : FnOkG P w K mg base CX k f fd ps sp :=
  ⟨F.len, fun A outer s H args us vs Q E hr _ => F.run A outer s H args us vs Q E hr⟩
theorem law_sp {K : PySem.W.Frag} {h : Fn} {H : Hp} {a : Addr} {ns : List Int} (hS : SqL K H a (ns.map V.int)) (q : ∃ S', h [.pl (.scr ns)] [] = .ok (.pl (.bl true)) S') : spF K 1 h [.ref a] H (fun v _ => v = .bl true) fun _ _ _ => False := by
  obtain ⟨S', e⟩ := q
  refine ⟨H, [], [], [.pl (.scr ns)], rfl, ⟨.refl H, nofun, List.nodup_nil, rfl, fun n a o e => by simp at e⟩, .cons (.scr hS) .nil, ?_⟩
  rw [e]
  intro F' μ' H' v _ _ r
  cases (show Rp K F' μ' v (.bl true) from r)
  rfl
def reprS (d : D) : Option Sl := match d with
  | .lst _ => if plainD d && ((toPy d).showable && (!(toPy d).hasDict && (decide ((toPy d).depth ≤ 60) && decide ((toPy d).shown.length ≤ cap)))) then some (.pl (.str (toPy d).shown)) else none
  | .tup _ => if plainD d && ((toPy d).showable && (!(toPy d).hasDict && (decide ((toPy d).depth ≤ 60) && decide ((toPy d).shown.length ≤ cap)))) then some (.pl (.str (toPy d).shown)) else none
  | _ => none
def reprS1 : List D → Option Sl
  | [d] => reprS d
  | _ => none
def rReprD (K : PySem.W.Frag) : List V → Hp → VK → Prop := fun xs H Q => ∃ (a : Addr) (d : PyData), xs = [.ref a] ∧ Dp K H (.ref a) d ∧ d.showable = true ∧ d.hasDict = false ∧ d.depth ≤ 60 ∧ d.shown.length ≤ sizeLine ∧ Q (.str d.shown) H
theorem cr_reprD {X : Cx} (hu : X.A.units + 70 < cLine) (gd : X.A.guards = some []) : CallR X (.builtin "repr") (rReprD X.K) := by
  intro pins s σ H vs us Q I r h
  obtain ⟨a, d, rfl, hd, h1, h2, h3, h4, q⟩ := h
  obtain ⟨u, rfl, ru⟩ := vals1 r
  obtain rfl : u = Value.ref a := ru
  obtain ⟨as, rr⟩ := Dp.reads I d (.ref a) (.ref a) hd rfl
  exact repr_of_reads' rr h1 (fun z => by rw [h2] at z; cases z) gd (by omega) (fun b o e => e) (fun h' u tk hk => ⟨.str d.shown, H, I.kept (t' := tk) hk, ⟨u, rfl⟩, q⟩) h4
theorem g_repr {K : PySem.W.Frag} : GC K (rReprD K) reprS1 := by
  intro F μ S H vs ds s Q o r e k
  unfold reprS1 at e
  split at e
  · rename_i d
    obtain ⟨v, rfl, r1⟩ := rrs1 r
    cases d <;> simp only [reprS, reduceCtorEq] at e
    case lst xs =>
      split at e
      · rename_i c
        cases e
        simp only [Bool.and_eq_true, Bool.not_eq_true', decide_eq_true_eq] at c
        obtain ⟨c1, c2, c3, c4, c5⟩ := c
        have dp := (r1.toH o.sub).dp c1
        obtain ⟨p, ws, rfl, _, _⟩ := r1.lst o.sub
        exact ⟨p, _, rfl, dp, c2, c3, c4, cap_le c5, end_pl o (fun _ _ => .str _) k⟩
      · cases e
    case tup xs =>
      split at e
      · rename_i c
        cases e
        simp only [Bool.and_eq_true, Bool.not_eq_true', decide_eq_true_eq] at c
        obtain ⟨c1, c2, c3, c4, c5⟩ := c
        have dp := (r1.toH o.sub).dp c1
        obtain ⟨p, ws, rfl, _, _⟩ := r1.tup o.sub
        exact ⟨p, _, rfl, dp, c2, c3, c4, cap_le c5, end_pl o (fun _ _ => .str _) k⟩
      · cases e
  · cases e
end Gt
set_option Elab.async false
set_option linter.all false
set_option maxRecDepth 100000
namespace Gt
open PySem PySem.Spec PyProof.Rows L2 RZ StX
namespace F
theorem zip_no_len : typeLookup (.type "zip") "__len__" = pure none := by rw [typeLookup_type, builtinLookup_eq_fast]; kernel_rfl
theorem zip_no_hint : typeLookup (.type "zip") "__length_hint__" = pure none := by rw [typeLookup_type, builtinLookup_eq_fast]; kernel_rfl
end F
structure ZSt (h : Heap) (z TI TO i1 i2 l1 l2 : Addr) (xs ys : Array Value) (i : Nat) : Prop where
  TIp : IsPair h TI (.ref i1) (.ref i2)
  it1 : h.IsListIter i1 l1 i
  it2 : h.IsListIter i2 l2 i
  li1 : h.IsList l1 xs
  li2 : h.IsList l2 ys
  zp : (IsZip h z TI TO .none ∧ ∃ a b, IsPair h TO a b) ∨ ∃ T f oT, IsZipHeld h z TI TO T f ∧ h.get? T = some oT ∧ T ≠ z ∧ T ≠ i1 ∧ T ≠ i2 ∧ T ≠ TO
section
variable {prog : Program} {w : World} {A : Around} {R : Result → Shared → Prop} {z TI TO i1 i2 l1 l2 S : Addr} {xs ys : Array Value} {kvs : List (Key × Value)} {lo : Addr}
theorem ZSt.keep {h h' : Heap} {i : Nat} (st : ZSt h z TI TO i1 i2 l1 l2 xs ys i) (k : ∀ b o, b ≠ S → h.get? b = some o → h'.get? b = some o) (hs : S ≠ z ∧ S ≠ TI ∧ S ≠ TO ∧ S ≠ i1 ∧ S ≠ i2 ∧ S ≠ l1 ∧ S ≠ l2) (hT : ∀ T f oT, IsZipHeld h z TI TO T f → h.get? T = some oT → T ≠ S) : ZSt h' z TI TO i1 i2 l1 l2 xs ys i := by
  obtain ⟨e1, e2, e3, e4, e5, e6, e7⟩ := hs
  refine ⟨k _ _ (Ne.symm e2) st.TIp, st.it1.at fun o e => k _ o (Ne.symm e4) e, st.it2.at fun o e => k _ o (Ne.symm e5) e, st.li1.at fun o e => k _ o (Ne.symm e6) e, st.li2.at fun o e => k _ o (Ne.symm e7) e, ?_⟩
  rcases st.zp with ⟨a, b, c, d⟩ | ⟨T, f, oT, a, b, r⟩
  · exact .inl ⟨k _ _ (Ne.symm e1) a, b, c, k _ _ (Ne.symm e3) d⟩
  · exact .inr ⟨T, f, oT, k _ _ (Ne.symm e1) a, k _ _ (hT T f oT a b) b, r⟩
theorem zip_loop (hh : A.handled = none) (D : ZipApart z TI TO i1 i2 l1 l2) (hs : S ≠ z ∧ S ≠ TI ∧ S ≠ TO ∧ S ≠ i1 ∧ S ≠ i2 ∧ S ≠ l1 ∧ S ≠ l2) (hlo : lo ≤ S ∧ z < lo ∧ TO < lo ∧ i1 < lo ∧ i2 < lo) (res : Value) {s : Shared} {h₁ : Heap}
    (hn : kvs.length ≤ sizeLine) (hx : ∀ i, i < kvs.length → ∃ x y, xs[i]? = some x ∧ ys[i]? = some y ∧ (kvs[i]?).map (·.2) = some y ∧ ∃ k, (kvs[i]?).map (·.1) = some k ∧ (mixKind prog w).is k x = true) (hend : xs[kvs.length]? = none ∨ ys[kvs.length]? = none)
    (hR : ∀ h' acc c as, (∀ b o, b ≠ S → b ≠ z → b ≠ TO → b ≠ i1 → b ≠ i2 → h₁.get? b = some o → h'.get? b = some o) → h'.get? S = some { cls := .type "list", dict := none, data := .seq acc c, slots := #[] } → as.length = kvs.length → PySem.W.KdxG (mixKind prog w) kvs S h' as →
      acc.toList = as.map Value.ref → R (.ok (.ret res)) { s with heap := h' }) :
    ∀ (k i : Nat) (h : Heap) (c : Nat) (acc : Array Value) (as : List Addr), kvs.length - i = k → i ≤ kvs.length → ZSt h z TI TO i1 i2 l1 l2 xs ys i → (∀ T f, IsZipHeld h z TI TO T f → S < T) → (∀ b o, b ≠ S → b ≠ z → b ≠ TO → b ≠ i1 → b ≠ i2 → h₁.get? b = some o → h.get? b = some o) →
      h.get? S = some { cls := .type "list", dict := none, data := .seq acc c, slots := #[] } → acc.toList = as.map Value.ref → as.length = i → PySem.W.KdxG (mixKind prog w) kvs S h as →
      codeAny (model prog w) A (.builtin "list.extend.loop" ⟨[.ref S, .ref z, res], []⟩) R { s with heap := h } := by
  obtain ⟨hlo1, hlo2, hlo3, hlo4, hlo5⟩ := hlo
  have e1 : S ≠ z := hs.1
  have far : ∀ {c a : Addr}, c < lo → S < a → a ≠ c := fun hc ha => Nat.ne_of_gt (Nat.lt_trans (Nat.lt_of_lt_of_le hc hlo1) ha)
  intro k
  induction k with
  | zero =>
    intro i h c acc as hk hi hst hT hkeep hS hacc hal hG
    have hin : i = kvs.length := by omega
    subst hin
    refine codeAny_builtin PySem.F.entry_extend_loop ?_
    rw [Around.under_plainId PySem.F.plain_extend_loop _]
    show wpAny _ A.in1 (pyNext (.ref z) >>= _) _ _ _
    have fin : ∀ h', (∀ c o, c ≠ z → c ≠ TO → c ≠ i1 → c ≠ i2 → h.get? c = some o → h'.get? c = some o) → R (.ok (.ret res)) { s with heap := h' } := fun h' kp =>
      hR h' acc c as (fun b o b1 b2 b3 b4 b5 e => kp b o b2 b3 b4 b5 (hkeep b o b1 b2 b3 b4 b5 e)) (kp S _ hs.1 hs.2.2.1 hs.2.2.2.1 hs.2.2.2.2.1 hS) hal ⟨hG.rise, hG.above, fun j a hj => by
        obtain ⟨key, kk, x, q1, q2, q3⟩ := hG.pairs j a hj
        have ha := hG.above a (List.mem_of_getElem? hj)
        exact ⟨key, kk, x, q1, q2, kp a _ (far hlo2 ha) (far hlo3 ha) (far hlo4 ha) (far hlo5 ha) q3⟩⟩ hacc
    rcases hst.zp with ⟨hz, a, b, hTO⟩ | ⟨T, f, oT, hz, hT2, r1, r2, r3, r4⟩
    · refine wpAny_bind (wpAny_pyNext_zip_end (s := { s with heap := h }) (A := A.in1) hh D hz hst.TIp hTO hst.it1 hst.it2 hst.li1 hst.li2 hend fun h' kp => wpAny_pure (fin h' fun c o c1 c2 c3 c4 e => kp c o c1 c2 c3 c4 e))
    · refine wpAny_bind (wpAny_pyNext_zip_end_held (s := { s with heap := h }) (A := A.in1) hh D hz hT2 hst.TIp hst.it1 hst.it2 hst.li1 hst.li2 hend fun h' kp => wpAny_pure (fin h' fun c o c1 c2 c3 c4 e => kp c o c1 c3 c4 e))
  | succ k ih =>
    intro i h c acc as hk hi hst hT hkeep hS hacc hal hG
    have hlt : i < kvs.length := by omega
    obtain ⟨x, y, ex, ey, ek, kk, ekk, his⟩ := hx i hlt
    refine codeAny_builtin PySem.F.entry_extend_loop ?_
    rw [Around.under_plainId PySem.F.plain_extend_loop _]
    show wpAny _ A.in1 (pyNext (.ref z) >>= _) _ _ _
    have hSl : S < h.objs.size := Heap.lt_size hS
    have asz : acc.size = i := by
      have := congrArg List.length hacc
      rw [Array.length_toList, List.length_map] at this
      omega
    have step : ∀ (h' : Heap) (f : Bool) (T : Addr), IsZipHeld h' z TI TO T f → S < T → (∃ oT, h'.get? T = some oT) → T ≠ z ∧ T ≠ i1 ∧ T ≠ i2 ∧ T ≠ TO → h'.IsListIter i1 l1 (i + 1) → h'.IsListIter i2 l2 (i + 1) → IsPair h' h.objs.size x y → (∀ c o, c ≠ z → c ≠ TO → c ≠ i1 → c ≠ i2 → h.get? c = some o → h'.get? c = some o) →
        wpAny (model prog w) A.in1 (updateSeq S (·.push (.ref h.objs.size)) >>= fun _ => again (.builtin "list.extend.loop" ⟨[.ref S, .ref z, res], []⟩))
          (fun fin s' => match fin with | .done f => R (.ok f) s' | .again c' => c'.quiet = true ∧ codeAny (model prog w) A c' R s') (fun e s' => R (.error e) s') { s with heap := h' } := by
      intro h' f T hz' hST hoT hTn hi1 hi2 hp kp
      have hS' := kp S _ hs.1 hs.2.2.1 hs.2.2.2.1 hs.2.2.2.2.1 hS
      refine wpAny_bind ?_
      have ne : S ≠ h.objs.size := Nat.ne_of_lt hSl
      have oth : ∀ b o, b ≠ S → h'.get? b = some o → (h'.update S (Obj.mapSeq (·.push (Value.ref h.objs.size)))).get? b = some o := fun b o hb e => (Heap.get?_update_other _ _ (Ne.symm hb)).trans e
      obtain ⟨oT, hoT⟩ := hoT
      refine wpAny_updateSeq hS' rfl (wpAny_pure ⟨plainId_quiet PySem.F.plain_extend_loop _, ih (i + 1) _ _ (acc.push (.ref h.objs.size)) (as ++ [h.objs.size]) (by omega) (by omega) ?_ ?_ ?_ (Heap.get?_update_self _ hS' rfl) ?_ ?_ ?_⟩) (by rw [asz]; omega) (by show (acc.push (Value.ref h.objs.size)).size ≤ sizeLine + 1; rw [Array.size_push, asz]; omega)
      · obtain ⟨s1, s2, s3, s4, s5, s6, s7⟩ := hs
        have lt1 : ∀ o, h.get? l1 = some o → h'.get? l1 = some o := fun o e => kp l1 o D.l1z D.l1TO D.l1i1 D.l1i2 e
        have lt2 : ∀ o, h.get? l2 = some o → h'.get? l2 = some o := fun o e => kp l2 o D.l2z D.l2TO D.l2i1 D.l2i2 e
        have base : ZSt h' z TI TO i1 i2 l1 l2 xs ys (i + 1) := ⟨kp TI _ D.TIz D.TITO D.TIi1 D.TIi2 hst.TIp, hi1, hi2, hst.li1.at lt1, hst.li2.at lt2, .inr ⟨T, f, oT, hz', hoT, hTn⟩⟩
        refine base.keep (S := S) oth ⟨s1, s2, s3, s4, s5, s6, s7⟩ fun T2 f2 o2 q1 _ => ?_
        have : h'.get? z = some _ := hz'
        rw [q1] at this
        have e := Option.some.inj this
        simp only [Obj.mk.injEq, Data.fields.injEq] at e
        have e3 := e.2.2.1
        have e4 : rawInt (T2 : Int) = rawInt (T : Int) := by
          have := congrArg (fun a : Array Value => a[0]?) e3
          simpa using this
        have e5 : T2 = T := by
          injection e4 with e6 _
          exact Int.ofNat.inj e6
        rw [e5]
        exact Nat.ne_of_gt hST
      · intro T2 f2 q1
        have q2 : (h'.update S (Obj.mapSeq (·.push (Value.ref h.objs.size)))).get? z = some _ := oth z _ (Ne.symm e1) hz'
        have q3 := q1
        rw [show (h'.update S (Obj.mapSeq (·.push (Value.ref h.objs.size)))).get? z = some _ from q1] at q2
        have e := Option.some.inj q2
        simp only [Obj.mk.injEq, Data.fields.injEq] at e
        have e3 := e.2.2.1
        have e4 : rawInt (T2 : Int) = rawInt (T : Int) := by
          have := congrArg (fun a : Array Value => a[0]?) e3
          simpa using this
        have e5 : T2 = T := by
          injection e4 with e6 _
          exact Int.ofNat.inj e6
        rw [e5]
        exact hST
      · exact fun b o b1 b2 b3 b4 b5 e => oth b o b1 (kp b o b2 b3 b4 b5 (hkeep b o b1 b2 b3 b4 b5 e))
      · rw [Array.toList_push, hacc, List.map_append]; rfl
      · rw [List.length_append, hal]; rfl
      · refine ⟨?_, fun a ha => ?_, fun j a hj => ?_⟩
        · rw [List.pairwise_append]
          refine ⟨hG.rise, List.pairwise_singleton _ _, fun a ha b hb => ?_⟩
          rw [List.mem_singleton.mp hb]
          obtain ⟨j, hj⟩ := List.mem_iff_getElem?.mp ha
          obtain ⟨_, _, _, _, _, q⟩ := hG.pairs j a hj
          exact Heap.lt_size q
        · rcases List.mem_append.mp ha with ha | ha
          · exact hG.above a ha
          · rw [List.mem_singleton.mp ha]; exact hSl
        · by_cases hji : j < as.length
          · rw [List.getElem?_append_left hji] at hj
            obtain ⟨key, k2, x2, q1, q2, q3⟩ := hG.pairs j a hj
            have ha := hG.above a (List.mem_of_getElem? hj)
            exact ⟨key, k2, x2, q1, q2, oth a _ (Nat.ne_of_gt ha) (kp a _ (far hlo2 ha) (far hlo3 ha) (far hlo4 ha) (far hlo5 ha) q3)⟩
          · rw [List.getElem?_append_right (by omega)] at hj
            have hj0 : j = i := by
              have := (List.getElem?_eq_some_iff.mp hj).1
              simp at this
              omega
            subst hj0
            rw [hal, Nat.sub_self] at hj
            cases hj
            cases q : kvs[j]? with
            | none => rw [q] at ek; cases ek
            | some p =>
              rw [q] at ek ekk
              cases ek
              cases ekk
              exact ⟨x, p.1, p.2, rfl, his, oth _ _ (Ne.symm ne) hp⟩
    rcases hst.zp with ⟨hz, a, b, hTO⟩ | ⟨T, f, oT, hz, hT2, r1, r2, r3, r4⟩
    · refine wpAny_bind (wpAny_pyNext_zip_item (s := { s with heap := h }) D hz hst.TIp hTO hst.it1 hst.it2 hst.li1 hst.li2 ex ey fun h' a1 a2 a3 a4 a5 a6 kp => ?_)
      exact step h' false h.objs.size a1 hSl ⟨_, a5⟩ ⟨far hlo2 hSl, far hlo4 hSl, far hlo5 hSl, far hlo3 hSl⟩ a3 a4 a5 fun c o c1 c2 c3 c4 e => kp c o c1 c2 c3 c4 e
    · refine wpAny_bind (wpAny_pyNext_zip_item_held (s := { s with heap := h }) D hz hT2 hst.TIp hst.it1 hst.it2 hst.li1 hst.li2 ex ey fun h' a1 a3 a4 a5 a6 kp => ?_)
      exact step h' true T a1 (hT T f hz) ⟨oT, kp T oT r1 r2 r3 hT2⟩ ⟨r1, r2, r3, r4⟩ a3 a4 a5 fun c o c1 c2 c3 c4 e => kp c o c1 c3 c4 e
end
section
variable {prog : Program} {w : World} {A : Around} {E : Value → Shared → Prop} {z TI TO i1 i2 l1 l2 S : Addr} {xs ys : Array Value} {kvs : List (Key × Value)} {lo : Addr}
set_option maxHeartbeats 1000000 in
theorem call_listZip {s : Shared} {Q : Value → Shared → Prop} (hh : A.handled = none) (D : ZipApart z TI TO i1 i2 l1 l2) (hlt : z < s.heap.objs.size ∧ TI < s.heap.objs.size ∧ TO < s.heap.objs.size ∧ i1 < s.heap.objs.size ∧ i2 < s.heap.objs.size ∧ l1 < s.heap.objs.size ∧ l2 < s.heap.objs.size)
    (hz : IsZip s.heap z TI TO .none) (hTI : IsPair s.heap TI (.ref i1) (.ref i2)) (hTO : IsPair s.heap TO .none .none) (h1 : s.heap.IsListIter i1 l1 0) (h2 : s.heap.IsListIter i2 l2 0) (hl1 : s.heap.IsList l1 xs) (hl2 : s.heap.IsList l2 ys)
    (hn : kvs.length ≤ sizeLine) (hx : ∀ i, i < kvs.length → ∃ x y, xs[i]? = some x ∧ ys[i]? = some y ∧ (kvs[i]?).map (·.2) = some y ∧ ∃ k, (kvs[i]?).map (·.1) = some k ∧ (mixKind prog w).is k x = true) (hend : xs[kvs.length]? = none ∨ ys[kvs.length]? = none)
    (hQ : ∀ h' acc c as, (∀ b o, b ≠ z → b ≠ TO → b ≠ i1 → b ≠ i2 → s.heap.get? b = some o → h'.get? b = some o) → h'.get? s.heap.objs.size = some { cls := .type "list", dict := none, data := .seq acc c, slots := #[] } → as.length = kvs.length → PySem.W.KdxG (mixKind prog w) kvs s.heap.objs.size h' as →
      acc.toList = as.map Value.ref → Q (.ref s.heap.objs.size) { s with heap := h' }) :
    wpAny (model prog w) A (call (.type "list") [.ref z]) Q E s := by
  obtain ⟨b1, b2, b3, b4, b5, b6, b7⟩ := hlt
  refine callType_codes (Q₁ := fun obj s₁ => obj = .ref s.heap.objs.size ∧ s₁ = { s with heap := s.heap.push { cls := .type "list", data := .seq #[] } }) PySem.F.called_list (PySem.F.typeCall_list_1 _) PySem.F.entry_list_init
    (code_list_new _ ⟨rfl, rfl⟩) fun obj s₁ h₁ => ?_
  obtain ⟨rfl, rfl⟩ := h₁
  have hS : (s.heap.push { cls := .type "list", data := .seq #[] }).get? s.heap.objs.size = some { cls := .type "list", data := .seq #[] } := Heap.get?_push_size _ rfl
  refine ⟨⟨_, hS, rfl⟩, PySem.F.args_list_init_2 _ _, ?_⟩
  have hne : ∀ {c : Addr}, c < s.heap.objs.size → s.heap.objs.size ≠ c := fun h => Nat.ne_of_gt h
  have st0 : ∀ h : Heap, (∀ b o, s.heap.get? b = some o → h.get? b = some o) → ZSt h z TI TO i1 i2 l1 l2 xs ys 0 := fun h k => ⟨k _ _ hTI, h1.at fun o e => k _ o e, h2.at fun o e => k _ o e, hl1.at fun o e => k _ o e, hl2.at fun o e => k _ o e, .inl ⟨k _ _ hz, _, _, k _ _ hTO⟩⟩
  have low : ∀ b o, s.heap.get? b = some o → b ≠ s.heap.objs.size := fun b o e => Nat.ne_of_lt (Heap.lt_size e)
  show wpAny _ A.in1.in1 (do let old ← Builtin.List.listItems (.ref s.heap.objs.size); Builtin.List.listUpdate (.ref s.heap.objs.size) (fun _ => #[]); letGo old.toList.reverse; Builtin.List.listExtendWith (.ref s.heap.objs.size) (.ref z) .none) _ _ _
  refine wpAny_bind ?_
  unfold Builtin.List.listItems
  refine wpAny_bind (wpAny_seqItems hS rfl (wpAny_pure ?_))
  show wpAny _ A.in1.in1 (updateSeq s.heap.objs.size (fun _ => #[]) >>= fun _ => letGo (#[] : Array Value).toList.reverse >>= fun _ => Builtin.List.listExtendWith (.ref s.heap.objs.size) (.ref z) .none) _ _ _
  refine wpAny_bind (wpAny_updateSeq hS rfl ?_)
  have hS₂ := Heap.get?_update_self (Obj.mapSeq (fun _ => (#[] : Array Value))) hS rfl
  have oth2 : ∀ b o, b ≠ s.heap.objs.size → (s.heap.push { cls := .type "list", data := .seq #[] }).get? b = some o → ((s.heap.push { cls := .type "list", data := .seq #[] }).update s.heap.objs.size (Obj.mapSeq (fun _ => (#[] : Array Value)))).get? b = some o :=
    fun b o hb e => (Heap.get?_update_other _ _ (Ne.symm hb)).trans e
  refine wpAny_bind (wpAny_letGo ?_)
  generalize hH2 : (s.heap.push { cls := .type "list", data := .seq #[] }).update s.heap.objs.size (Obj.mapSeq (fun _ => (#[] : Array Value))) = H2 at hS₂ oth2
  have k2 : ∀ b o, s.heap.get? b = some o → H2.get? b = some o := fun b o e => oth2 b o (low b o e) (Heap.get?_push_of_some _ e)
  unfold Builtin.List.listExtendWith
  have hT : Shared.TypeIs { s with heap := H2 } (.ref z) "zip" := ⟨_, k2 _ _ hz, rfl⟩
  refine wpAny_bind (wpAny_typeOf hT ?_)
  have q1 : Builtin.List.listSameRef (.ref s.heap.objs.size) (.ref z) = false := by simp [Builtin.List.listSameRef, hne b1]
  have q2 : (Value.type "zip" == Value.type "list") = false := by decide
  have q3 : (Value.type "zip" == Value.type "tuple") = false := by decide
  simp only [q1, q2, q3, Bool.or_false, Bool.false_eq_true, if_false]
  refine wpAny_bind (wpAny_pyIter_zip (k2 _ _ hz) ?_)
  refine wpAny_bind (wpAny_holding ?_)
  unfold Builtin.List.listLengthHint
  refine wpAny_bind (wpAny_specialOf hT F.zip_no_len ?_)
  show wpAny _ A.in1.in1 (specialOf (Value.ref z) (Str.ofString "__length_hint__") >>= _) _ _ _
  refine wpAny_bind (wpAny_specialOf hT F.zip_no_hint ?_)
  refine wpAny_pure ?_
  show wpAny _ A.in1.in1 (rule "list.extend.makes-room" >>= fun _ => Builtin.List.listTouch (.ref s.heap.objs.size) >>= fun _ =>
    again (.builtin "list.extend.loop" ⟨[.ref s.heap.objs.size, .ref z, .none], []⟩)) _ _ _
  refine wpAny_bind (wpAny_rule ?_)
  refine wpAny_bind ?_
  show wpAny _ A.in1.in1 (updateSeq s.heap.objs.size (·.push .none) >>= fun _ => updateSeq s.heap.objs.size (·.pop)) _ _ _
  refine wpAny_bind (wpAny_updateSeq hS₂ rfl ?_)
  have hS₃ := Heap.get?_update_self (Obj.mapSeq (·.push Value.none)) hS₂ rfl
  refine wpAny_updateSeq (hz := by seq_fits) hS₃ rfl ?_
  have hS₄ := Heap.get?_update_self (Obj.mapSeq (·.pop)) hS₃ rfl
  have oth : ∀ b o, b ≠ s.heap.objs.size → H2.get? b = some o → ((H2.update s.heap.objs.size (Obj.mapSeq (·.push Value.none))).update s.heap.objs.size (Obj.mapSeq (·.pop))).get? b = some o :=
    fun b o hb e => (Heap.get?_update_other _ _ (Ne.symm hb)).trans ((Heap.get?_update_other _ _ (Ne.symm hb)).trans e)
  have k4 : ∀ b o, s.heap.get? b = some o → ((H2.update s.heap.objs.size (Obj.mapSeq (·.push Value.none))).update s.heap.objs.size (Obj.mapSeq (·.pop))).get? b = some o := fun b o e => oth b o (low b o e) (k2 b o e)
  refine wpAny_pure ⟨plainId_quiet PySem.F.plain_extend_loop _, ?_⟩
  refine zip_loop (prog := prog) (w := w) (A := A.in1) (s := s) (h₁ := s.heap) (lo := s.heap.objs.size) (kvs := kvs) (by simp [hh]) D ⟨hne b1, hne b2, hne b3, hne b4, hne b5, hne b6, hne b7⟩ ⟨Nat.le_refl _, b1, b3, b4, b5⟩ .none hn hx hend
    (fun h' acc c as kp e1 e2 e3 e4 => ⟨rfl, hQ h' acc c as (fun b o c1 c2 c3 c4 e => kp b o (low b o e) c1 c2 c3 c4 e) e1 e2 e3 e4⟩) kvs.length 0 _ _ _ [] (Nat.sub_zero _) (Nat.zero_le _) (st0 _ k4) (fun T f q => ?_) (fun b o _ _ _ _ _ e => k4 b o e) hS₄ (by rfl) rfl ⟨List.Pairwise.nil, nofun, fun j a hj => by simp at hj⟩
  have q5 := k4 _ _ hz
  rw [show ((H2.update s.heap.objs.size (Obj.mapSeq (·.push Value.none))).update s.heap.objs.size (Obj.mapSeq (·.pop))).get? z = some _ from q] at q5
  have e := Option.some.inj q5
  simp only [Obj.mk.injEq, Data.fields.injEq] at e
  have e4 : rawInt (T : Int) = Value.none := by
    have := congrArg (fun a : Array Value => a[0]?) e.2.2.1
    simpa using this
  simp [rawInt] at e4
end
section
open LiI
variable {X : Cx}
theorem items_laidP {pins : List (Addr × Obj)} {σ : L2.St} {H : Hp} {s : Shared} {h' : Heap} {tk : Nat} {kvs : List (Key × V)} {vs : List (Key × Value)} {acc : Array Value} {c : Nat} {as : List Addr} {P0 : Addr} (hP0 : s.heap.objs.size ≤ P0) (I : Inv X pins σ H s) (hz : kvs.length ≤ sizeLine) (kv : KV kvs vs)
    (hk : ∀ b o, s.heap.get? b = some o → h'.get? b = some o) (hS : h'.get? P0 = some { cls := .type "list", dict := none, data := .seq acc c, slots := #[] }) (hl : as.length = vs.length) (hG : PySem.W.KdxG (mixKind X.prog X.w) vs P0 h' as) (hacc : acc.toList = as.map Value.ref) :
    ∃ H' : Hp, (∀ b o, H b = some o → H' b = some o) ∧ H P0 = none ∧ (∀ t ∈ as, H t = none) ∧ P0 ∉ as ∧ H' P0 = some (.lst (as.map V.ref)) ∧ Paired (fun (t : Addr) (q : Key × V) => H' t = some (.tup [kV q.1, q.2])) as kvs ∧ Inv X pins σ H' { s with heap := h', toks := tk } := by
  have lk : kvs.length = vs.length := Paired.length kv
  have hSn : P0 ∉ as := fun z => Nat.lt_irrefl _ (hG.above _ z)
  have nd : as.Nodup := List.Pairwise.imp (fun {a b} (h : a < b) => Nat.ne_of_lt h) hG.rise
  have new : ∀ t ∈ as, H t = none := fun t ht => I.hok.fresh (Nat.le_trans hP0 (Nat.le_of_lt (hG.above t ht)))
  have newS : H P0 = none := I.hok.fresh hP0
  have atP := putT_at as kvs (upd H P0 (.lst (as.map V.ref))) (by omega) nd
  have off : ∀ b, b ∉ as → b ≠ P0 → putT (upd H P0 (.lst (as.map V.ref))) as kvs b = H b := fun b h1 h2 => by rw [putT_off as kvs _ h1, upd_ne h2]
  have low : ∀ b o, s.heap.get? b = some o → b ∉ as ∧ b ≠ P0 := fun b o e => ⟨fun z => absurd (Heap.lt_size e) (Nat.not_lt.mpr (Nat.le_trans hP0 (Nat.le_of_lt (hG.above b z)))), Nat.ne_of_lt (Nat.lt_of_lt_of_le (Heap.lt_size e) hP0)⟩
  have kp : ∀ b u, H b = some u → (putT (upd H P0 (.lst (as.map V.ref))) as kvs) b = some u := fun b u e => by
    rw [off b (fun z => by rw [new b z] at e; cases e) (fun z => by rw [z, newS] at e; cases e)]
    exact e
  have eS : putT (upd H P0 (.lst (as.map V.ref))) as kvs P0 = some (.lst (as.map V.ref)) := by rw [putT_off as kvs _ hSn, upd_same]
  refine ⟨putT (upd H P0 (.lst (as.map V.ref))) as kvs, kp, newS, new, hSn, eS, atP, ?_⟩
  refine I.call' (ch := []) rfl ⟨fun b o q _ _ _ => hk b o q, fun b o q _ _ _ => ⟨o.slots, hk b o q⟩, fun b o q n _ => ?_, fun b o q _ => ⟨o, hk b o q⟩, fun b xs q => kp b _ q, fun b o u q => kp b _ q, fun b ps q => ⟨#[], by rw [kp b _ q]; simp⟩⟩ (fun b u q => ?_) I.bare fun b z => by simp at z
  · obtain ⟨z1, z2⟩ := low b o q
    rw [off b z1 z2]
    exact n
  · by_cases hb : b ∈ as
    · obtain ⟨j, pk, e1, e2, e3⟩ := paired_ix atP hb
      rw [e3] at q
      cases q
      obtain ⟨key, k, x, f1, f2, f3⟩ := hG.pairs j b e1
      obtain ⟨qv, g1, g2, g3⟩ := LiI.paired_get kv e2
      rw [f1] at g1
      cases g1
      have rk : RelV (kV pk.1) key := by
        rw [g2]
        exact relV_key (show keyIs k key = true from f2)
      exact ⟨by show 2 ≤ sizeLine; decide, [key, x], .cons rk (.cons g3 .nil), ⟨_, f3, rfl, _, rfl⟩⟩
    · by_cases hb2 : b = P0
      · rw [hb2] at q ⊢
        rw [eS] at q
        cases q
        refine ⟨by rw [List.length_map]; omega, acc.toList, c, by rw [hacc]; exact vals_refs as, ?_⟩
        rw [Array.toArray_toList]
        exact hS
      · rw [off b hb hb2] at q
        exact (I.hok b u q).stay (fun d v _ y => hk d v y) (fun d y => kp d _ y) fun d xs y => kp d _ y
end
def rLZ (K : PySem.W.Frag) : List V → Hp → VK → Prop := fun vs H Q => ∃ (a b : Addr) (ks : List Key) (ys : List V), vs = [.ref a, .ref b] ∧ SqL K H a (ks.map kV) ∧ SqL K H b ys ∧
  ∀ (H' : Hp) (p : Addr) (ts : List Addr), (∀ b o, H b = some o → H' b = some o) → H p = none → (∀ t ∈ ts, H t = none) → p ∉ ts → H' p = some (.lst (ts.map V.ref)) → Paired (fun (t : Addr) (q : Key × V) => H' t = some (.tup [kV q.1, q.2])) ts (ks.zip ys) → Q (.ref p) H'
theorem kv_zip : ∀ {ks : List Key} {ys : List V} {us : List Value}, Vals ys us → KV (ks.zip ys) (ks.zip us)
  | [], _, _, _ => .nil
  | _ :: _, _, _, .nil => .nil
  | k :: ks, _, _, .cons r t => .cons ⟨rfl, r⟩ (kv_zip t)
theorem pe_listZip {X : Cx} {a b : Expr} {ta : TA} {p p2 pos pos2 : Pos} (hc : X.calm = true) (hg : Gl X "list") (hm : X.mg "list" = none) (hg2 : Gl X "zip") (hm2 : X.mg "zip" = none) (ha : PA X [a, b] ta)
    (hs : starEach [.Call (.Name "zip" p2) [a, b] [] pos2] X.env = (false, eval (.Call (.Name "zip" p2) [a, b] [] pos2) X.env) :: starEach [] X.env := by rfl) (hs2 : starEach [a, b] X.env = (false, eval a X.env) :: starEach [b] X.env := by rfl) (hpl : (backTo pos2 (starEach [b] X.env)).any (·.1) = false := by rfl) :
    PE X (.Call (.Name "list" p) [.Call (.Name "zip" p2) [a, b] [] pos2] [] pos) (fun σ H Q => ta σ H fun vs H1 => rLZ X.K vs H1 Q) := by
  refine ⟨fun pins s σ H Q I hq => ?_⟩
  refine wpAny_Call_Name_kw (ld_blt I hg hm PyProof.Rows.boot_list ?_)
  refine PyProof.Rows.callWith_type1 ?_ hs rfl
  rw [hs]
  show wpAny _ _ (spliced ((false, eval (.Call (.Name "zip" p2) [a, b] [] pos2) X.env) :: backTo pos (starEach [] X.env))) _ _ s
  refine Calls.spliced_cons ?_
  refine Call_ (ld_blt I hg2 hm2 PyProof.Rows.boot_zip (PyProof.Rows.callWith_type1 (thn (ha.run pos2 pins s σ H _ I hq) fun us s1 ⟨vs, H1, I1, r1, q1⟩ => ?_) hs2 hpl))
  obtain ⟨l1, l2, ks, ys, ex, hq1, hq2, q⟩ := q1
  subst ex
  cases r1 with
  | cons r rr =>
    cases rr with
    | cons r' rr =>
      cases rr
      cases r
      cases r'
      obtain ⟨its, rv, p1, z1⟩ := I1.list hq1
      obtain ⟨its2, rv2, p2', z2⟩ := I1.list hq2
      refine call_zip_2 p1.isList p2'.isList fun h' hz hTI hTO h1 h2 hsz hk => ?_
      have I2 : Inv X pins σ H1 { s1 with heap := h' } := I1.kept (t' := s1.toks) hk
      have lt1 : l1 < s1.heap.objs.size := p1.lt
      have lt2 : l2 < s1.heap.objs.size := p2'.lt
      refine Calls.spliced_nil ?_
      have lk : ks.length = its.length := by
        have := rv.length
        rw [List.length_map] at this
        exact this
      have hln : (ks.zip its2).length = min ks.length its2.length := List.length_zip
      refine call_listZip (prog := X.prog) (w := X.w) (kvs := ks.zip its2) (s := { s1 with heap := h' }) (I.ok.hd hc) (PySem.W.ktu_apart s1.heap.objs.size l1 l2 lt1 lt2) (by
        show _ < h'.objs.size ∧ _ < h'.objs.size ∧ _ < h'.objs.size ∧ _ < h'.objs.size ∧ _ < h'.objs.size ∧ l1 < h'.objs.size ∧ l2 < h'.objs.size
        rw [hsz]
        exact ⟨Nat.lt_succ_self _, by omega, by omega, by omega, by omega, Nat.lt_of_lt_of_le lt1 (by omega), Nat.lt_of_lt_of_le lt2 (by omega)⟩) hz hTI hTO h1 h2 (p1.isList.at fun o e => hk _ o e) (p2'.isList.at fun o e => hk _ o e) (by
          have := rv2.length
          rw [hln]
          have h3 := Nat.min_le_right ks.length its2.length
          omega) (fun i hi => ?_) ?_ fun h2' acc c as kp e1 e2 e3 e4 => ?_
      · rw [hln] at hi
        have hi1 : i < ks.length := Nat.lt_of_lt_of_le hi (Nat.min_le_left ..)
        have hi2 : i < its2.length := Nat.lt_of_lt_of_le hi (Nat.min_le_right ..)
        have hi3 : i < its.length := by omega
        obtain ⟨k, hk1, hk2⟩ := keys_at rv i its[i] (List.getElem?_eq_getElem hi3)
        have ez : (ks.zip its2)[i]? = some (k, its2[i]) := by
          rw [List.getElem?_zip_eq_some]
          exact ⟨hk1, List.getElem?_eq_getElem hi2⟩
        exact ⟨its[i], its2[i], by simp [hi3], by simp [hi2], by rw [ez]; rfl, k, by rw [ez]; rfl, kV_is hk2⟩
      · rw [hln]
        rcases Nat.le_total ks.length its2.length with h | h
        · exact .inl (by rw [Nat.min_eq_left h]; simp; omega)
        · exact .inr (by rw [Nat.min_eq_right h]; simp)
      · have hsz5 : h'.objs.size = s1.heap.objs.size + 5 := hsz
        have kp2 : ∀ b o, s1.heap.get? b = some o → h2'.get? b = some o := fun b o e => by
          have hb := Heap.lt_size e
          refine kp b o ?_ ?_ ?_ ?_ (hk b o e)
          · show b ≠ s1.heap.objs.size + 4; exact Nat.ne_of_lt (Nat.lt_of_lt_of_le hb (Nat.le_add_right _ _))
          · show b ≠ s1.heap.objs.size + 3; exact Nat.ne_of_lt (Nat.lt_of_lt_of_le hb (Nat.le_add_right _ _))
          · show b ≠ s1.heap.objs.size; exact Nat.ne_of_lt hb
          · show b ≠ s1.heap.objs.size + 1; exact Nat.ne_of_lt (Nat.lt_of_lt_of_le hb (Nat.le_add_right _ _))
        have hP : s1.heap.objs.size ≤ h'.objs.size := by rw [hsz5]; exact Nat.le_add_right _ _
        have kvz := kv_zip (ks := ks) rv2
        have hz3 : (ks.zip ys).length ≤ sizeLine := by
          rw [List.length_zip]
          exact Nat.le_trans (Nat.min_le_right ..) (by rw [rv2.length]; have := rv2.length; omega)
        obtain ⟨H', k1, k2, k3, k4, k5, k6, J⟩ := items_laidP (tk := s1.toks) (P0 := h'.objs.size) hP I1 hz3 kvz kp2 e1 e2 e3 e4
        exact ⟨.ref _, H', J, rfl, q H' _ as k1 k2 k3 k4 k5 k6⟩
def keyO : D → Option Key
  | .int i => some (.inl i)
  | .str x => some (.inr x)
  | _ => none
def listZipS : List D → Option Sl
  | [.lst xs, .lst ys] => match keysD xs with
    | some ks => some (.own (zipD xs ys))
    | none => none
  | _ => none
section
variable {K : PySem.W.Frag} {W : WX} {B : Bs} {F F' H H' : Hp} {μ μ' : List Addr} {S S' : Ms} {δ : Evm} {σ : L2.St} {Q : VK}
theorem tups_new (o : Ok K F μ S H) {ts : List Addr} {p : Addr} (k : ∀ b o, H b = some o → H' b = some o) (hp : H p = none) (ht : ∀ t ∈ ts, H t = none) (hpt : p ∉ ts) :
    Stp F μ H (fun b => if b ∈ ts then H' b else F b) μ H' ∧ Ok K (fun b => if b ∈ ts then H' b else F b) μ S H' ∧ Sub F (fun b => if b ∈ ts then H' b else F b) := by
  have sF : Sub F (fun b => if b ∈ ts then H' b else F b) := fun a u e => by
    have hn : a ∉ ts := fun z => by
      have := o.sub a u e
      rw [ht a z] at this
      cases this
    show (if a ∈ ts then H' a else F a) = some u
    rw [if_neg hn]
    exact e
  refine ⟨⟨sF, .refl μ, fun a u e _ => k a u e, fun a e => ?_, fun a u e => ?_, fun a e => .inl e⟩, ⟨fun a u e => ?_, fun a e => ?_, o.nd, o.ln, fun n a x e1 e2 => ?_⟩, sF⟩
  · cases q : H a with
    | none => rfl
    | some u => rw [k a u q] at e; cases e
  · by_cases hn : a ∈ ts
    · exact .inr (.inl (ht a hn))
    · have e2 : (if a ∈ ts then H' a else F a) = some u := e
      rw [if_neg hn] at e2
      exact .inl e2
  · have e2 : (if a ∈ ts then H' a else F a) = some u := e
    by_cases hn : a ∈ ts
    · rw [if_pos hn] at e2; exact e2
    · rw [if_neg hn] at e2; exact k a u (o.sub a u e2)
  · show (if a ∈ ts then H' a else F a) = none
    have hn : a ∉ ts := fun z => (o.free (ht a z)).2 e
    rw [if_neg hn]
    exact o.fm a e
  · have q := o.mr n a x e1 e2
    have hh : H a = H' a := by
      cases x with
      | lst ds => obtain ⟨vs, z, _⟩ := q; rw [z, k _ _ z]
      | ins c ds => obtain ⟨dx, fs, z, _⟩ := q; rw [z, k _ _ z]
    rw [hh] at q
    exact q.mono sF (.refl μ)
theorem pairs_rp {F2 : Hp} {ts0 : List Addr} : ∀ {ts : List Addr} {ks : List Key} {ys : List V} {xs es : List D}, keysD xs = some ks → RpA K F2 μ ys es → Paired (fun (t : Addr) (q : Key × V) => F2 t = some (.tup [kV q.1, q.2])) ts (ks.zip ys) → RpA K F2 μ (ts.map V.ref) (zipD xs es)
  | ts, [], ys, xs, es, e, r, p => by
    cases xs with
    | nil => cases p; exact .nil
    | cons d ds =>
      have : False := by
        cases d <;> simp only [keysD, reduceCtorEq, Option.map_eq_some_iff, false_and, exists_false, and_false] at e
      exact this.elim
  | ts, k :: ks, [], xs, es, e, r, p => by
    cases r
    cases p
    cases xs <;> exact .nil
  | ts, k :: ks, y :: ys, xs, es, e, r, p => by
    cases r with
    | cons ry rr =>
      cases xs with
      | nil => cases e
      | cons d ds =>
        have hd : keysD ds = some ks ∧ ∀ F μ, Rp K F μ (kV k) d := by
          cases d <;> simp only [keysD, reduceCtorEq, Option.map_eq_some_iff] at e
          case int i =>
            obtain ⟨a, h1, h2⟩ := e
            cases h2
            exact ⟨h1, fun F μ => .int i⟩
          case str x =>
            obtain ⟨a, h1, h2⟩ := e
            cases h2
            exact ⟨h1, fun F μ => .str x⟩
        cases p with
        | cons h t => exact .cons (.tup h (.cons (hd.2 _ _) (.cons ry .nil))) (pairs_rp (ts0 := ts0) hd.1 rr t)
end
section
variable {X : Cx} {W : WX} {a b : Expr} {fa fb : Fe} {pos p p2 pos2 : Pos}
theorem se_listZip (hc : X.calm = true) (hg : Gl X "list") (hm : X.mg "list" = none) (hg2 : Gl X "zip") (hm2 : X.mg "zip" = none) (ha : SA X W [a, b] (fA [fa, fb]))
    (hs : starEach [.Call (.Name "zip" p2) [a, b] [] pos2] X.env = (false, eval (.Call (.Name "zip" p2) [a, b] [] pos2) X.env) :: starEach [] X.env := by rfl) (hs2 : starEach [a, b] X.env = (false, eval a X.env) :: starEach [b] X.env := by rfl) (hpl : (backTo pos2 (starEach [b] X.env)).any (·.1) = false := by rfl) :
    SE X W (.Call (.Name "list" p) [.Call (.Name "zip" p2) [a, b] [] pos2] [] pos) (eCall listZipS [fa, fb]) :=
  PE.imp (pe_listZip hc hg hm hg2 hm2 ha hs hs2 hpl) fun σ H Q ⟨B, F, μ, S, δ, hs, ho⟩ => by
    refine wA_bind (G := fun F μ H r => OE X.K W F μ H σ δ Q r) hs (fun _ _ h => h) (fun h => h) (fun _ _ _ _ t h => OE.go t h) ho fun ss S1 F1 μ1 H1 vs t1 h1 r1 o1 => ?_
    cases e1 : toDs ss with
    | none => rw [e1] at o1; exact o1.elim
    | some ds =>
      rw [e1] at o1
      dsimp only at o1
      cases e2 : listZipS ds with
      | none => rw [e2] at o1; exact o1.elim
      | some s =>
        rw [e2, lift_some] at o1
        have rr := toDs_rr h1 e1 r1
        unfold listZipS at e2
        split at e2
        · rename_i xs ys
          obtain ⟨v, v2, rfl, rv, rv2⟩ := rrs2 rr
          split at e2
          · rename_i ks eks
            cases e2
            obtain ⟨l1, ws, rfl, hl1, ra⟩ := rv.lst h1.ok.sub
            obtain ⟨l2, us, rfl, hl2, rb⟩ := rv2.lst h1.ok.sub
            have ew := keysD_vs eks ra
            subst ew
            refine ⟨l1, l2, ks, us, rfl, SqL.of hl1, SqL.of hl2, fun H' q ts k hq ht hqt hl hp => ?_⟩
            obtain ⟨t2, o2, sF⟩ := tups_new (H' := H') h1.ok k hq ht hqt
            have hp2 : Paired (fun (t : Addr) (q : Key × V) => (fun b => if b ∈ ts then H' b else F1 b) t = some (.tup [kV q.1, q.2])) ts (ks.zip us) := by
              have gen : ∀ {us : List Addr} {qs : List (Key × V)}, (∀ t ∈ us, t ∈ ts) → Paired (fun (t : Addr) (q : Key × V) => H' t = some (.tup [kV q.1, q.2])) us qs → Paired (fun (t : Addr) (q : Key × V) => (fun b => if b ∈ ts then H' b else F1 b) t = some (.tup [kV q.1, q.2])) us qs := by
                intro us qs hm hpp
                induction hpp with
                | nil => exact .nil
                | @cons t q us qs h _ ih =>
                  refine .cons ?_ (ih fun x hx => hm x (List.mem_cons_of_mem _ hx))
                  show (if t ∈ ts then H' t else F1 t) = _
                  rw [if_pos (hm t List.mem_cons_self)]
                  exact h
              exact gen (fun t h => h) hp
            have nF : (fun b => if b ∈ ts then H' b else F1 b) q = none := by
              show (if q ∈ ts then H' q else F1 q) = none
              rw [if_neg hqt]
              exact (h1.ok.free hq).1
            exact o1 _ μ1 H' (.ref q) t2 o2 ⟨q, _, rfl, hl, pairs_rp (ts0 := ts) eks (rb.mono sF (.refl μ1)) hp2, nF, (h1.ok.free hq).2, hq⟩
          · cases e2
        · cases e2
end
end Gt
set_option Elab.async false
set_option linter.all false
set_option maxRecDepth 100000
namespace Gt
open PySem PySem.Spec PyProof.Rows L2 RZ StX
def putG {α : Type} (kvs : List (Key × α)) (k : Key) (v : α) : List (Key × α) :=
  if (kvs.any fun kv => decide (kv.1 = k)) = true then kvs.map (fun kv => if kv.1 = k then (kv.1, v) else kv) else kvs ++ [(k, v)]
def mergeG {α : Type} (kvs more : List (Key × α)) : List (Key × α) := more.foldl (fun acc kv => putG acc kv.1 kv.2) kvs
def keyO1 : D → Option Key
  | .int i => some (.inl i)
  | .str x => some (.inr x)
  | _ => none
def pairsD : List D → Option (List (Key × D))
  | [] => some []
  | .tup [k, v] :: r => match keyO1 k, pairsD r with
    | some k, some r => some ((k, v) :: r)
    | _, _ => none
  | _ :: _ => none
def dictS : List D → Option Sl
  | [.lst xs] => (pairsD xs).map fun kvs => .od ((mergeG [] kvs).map fun p => keyD p.1) ((mergeG [] kvs).map (·.2))
  | _ => none
def findD (k : Key) : List D → List D → Option D
  | d :: ds, v :: vs => if keyO1 d = some k then some v else findD k ds vs
  | _, _ => none
def eDix (fa fb : Fe) : Fe := fun δ S => (rd fa δ S).bind fun d S => (rd fb δ S).bind fun y S => match d, keyO1 y with
  | .dct ks vs, some k => lift ((findD k ks vs).map .pl) S
  | _, _ => .st
abbrev RPk (K : PySem.W.Frag) (F : Hp) (μ : List Addr) : List (Key × V) → List (Key × D) → Prop := Paired fun p q => p.1 = q.1 ∧ Rp K F μ p.2 q.2
section
variable {K : PySem.W.Frag} {F H : Hp} {μ : List Addr} {S : Ms}
theorem RPk.any {kvs : List (Key × V)} {des : List (Key × D)} (r : RPk K F μ kvs des) (k : Key) : (kvs.any fun kv => decide (kv.1 = k)) = des.any fun kv => decide (kv.1 = k) := by
  induction r with
  | nil => rfl
  | cons h _ ih => rw [List.any_cons, List.any_cons, ih, h.1]
theorem RPk.put {kvs : List (Key × V)} {des : List (Key × D)} (r : RPk K F μ kvs des) {k : Key} {v : V} {d : D} (rv : Rp K F μ v d) : RPk K F μ (putK kvs k v) (putG des k d) := by
  unfold putK putG
  rw [r.any k]
  split
  · rename_i hh
    clear hh
    induction r with
    | nil => exact .nil
    | @cons p q ps qs h _ ih =>
      refine .cons ?_ ih
      obtain ⟨h1, h2⟩ := h
      dsimp only
      by_cases e : p.1 = k
      · rw [if_pos e, if_pos (h1 ▸ e)]
        exact ⟨h1, rv⟩
      · rw [if_neg e, if_neg (fun z => e (h1.trans z))]
        exact ⟨h1, h2⟩
  · exact paired_app r (.cons ⟨rfl, rv⟩ .nil)
theorem RPk.merge : ∀ {more : List (Key × V)} {m : List (Key × D)} {kvs : List (Key × V)} {des : List (Key × D)}, RPk K F μ kvs des → RPk K F μ more m → RPk K F μ (mergeK kvs more) (mergeG des m)
  | _, _, _, _, r, .nil => r
  | p :: _, q :: _, _, _, r, .cons h t => by
    show RPk K F μ (mergeK (putK _ p.1 p.2) _) (mergeG (putG _ q.1 q.2) _)
    have h1 : p.1 = q.1 := h.1
    rw [← h1]
    exact RPk.merge (RPk.put r h.2) t
theorem RPk.vals : ∀ {kvs : List (Key × V)} {des : List (Key × D)}, RPk K F μ kvs des → RpA K F μ (kvs.map (·.2)) (des.map (·.2)) ∧ kvs.map (fun q => keyD q.1) = des.map (fun q => keyD q.1)
  | _, _, .nil => ⟨.nil, rfl⟩
  | _, _, .cons h t => by
    obtain ⟨a, b⟩ := RPk.vals t
    exact ⟨.cons h.2 a, by rw [List.map_cons, List.map_cons, b, h.1]⟩
theorem keyO1_V {d : D} {k : Key} {v : V} (e : keyO1 d = some k) (r : Rp K F μ v d) : v = kV k := by
  cases d <;> simp only [keyO1, reduceCtorEq, Option.some.injEq] at e
  case int i => subst e; cases r; rfl
  case str x => subst e; cases r; rfl
theorem pairsD_of (s : Sub F H) : ∀ {xs : List D} {ws : List V} {kvs : List (Key × D)}, pairsD xs = some kvs → RpA K F μ ws xs → ∃ (ps : List Addr) (ms : List (Key × V)), ws = ps.map V.ref ∧ Paired (fun (p : Addr) (kv : Key × V) => SqT K H p [kV kv.1, kv.2]) ps ms ∧ RPk K F μ ms kvs
  | [], _, _, e, .nil => by cases e; exact ⟨[], [], rfl, .nil, .nil⟩
  | d :: ds, _, kvs, e, .cons r t => by
    unfold pairsD at e
    split at e
    · rename_i k v r0 hd
      cases hd
    · rename_i k v r0 hd
      cases hd
      cases hk : keyO1 k with
      | none => rw [hk] at e; cases e
      | some k2 =>
        cases hr : pairsD ds with
        | none => rw [hk, hr] at e; cases e
        | some r2 =>
          rw [hk, hr] at e
          cases e
          obtain ⟨a, vs, rfl, hq, rr⟩ := r.tup_inv
          cases rr with
          | cons q1 rr =>
            cases rr with
            | cons q2 rr =>
              cases rr
              obtain ⟨ps, ms, e1, e2, e3⟩ := pairsD_of s hr t
              have := keyO1_V hk q1
              subst this
              exact ⟨a :: ps, (k2, _) :: ms, by rw [e1]; rfl, .cons (sub_t s hq) e2, .cons ⟨rfl, q2⟩ e3⟩
    · cases e
theorem findD_at {k : Key} : ∀ {kvs : List (Key × V)} {ds : List D} {d : D}, RpA K F μ (kvs.map (·.2)) ds → findD k (kvs.map fun p => keyD p.1) ds = some d → ∃ v, valV kvs k = some v ∧ Rp K F μ v d
  | [], _, _, _, e => by simp [findD] at e
  | p :: kvs, [], _, r, e => by simp [findD] at e
  | p :: kvs, x :: ds, d, r, e => by
    have kk : keyO1 (keyD p.1) = some p.1 := by
      cases h : p.1 <;> rfl
    rw [List.map_cons, findD, kk] at e
    cases r with
    | cons r1 rr =>
      by_cases h : p.1 = k
      · rw [if_pos (by rw [h])] at e
        cases e
        exact ⟨p.2, by simp [valV, h], r1⟩
      · rw [if_neg (fun z => h (Option.some.inj z))] at e
        obtain ⟨v, h1, h2⟩ := findD_at rr e
        refine ⟨v, ?_, h2⟩
        unfold valV at h1 ⊢
        rw [List.find?_cons_of_neg (by simpa using h)]
        exact h1
theorem findD_no {k : Key} : ∀ {kvs : List (List Key × V)} {ds : List D}, findD k (kvs.map fun p => .tup (p.1.map keyD)) ds = none
  | [], _ => by simp [findD]
  | _ :: _, [] => by simp [findD]
  | p :: kvs, x :: ds => by
    rw [List.map_cons, findD, if_neg (by simp [keyO1])]
    exact findD_no
theorem findD_no' {k : Key} {kvs : List (List Key × V)} {ds : List D} : findD k (.non :: kvs.map fun p => .tup (p.1.map keyD)) ds = none := by
  cases ds with
  | nil => simp [findD]
  | cons x ds => rw [findD, if_neg (by simp [keyO1])]; exact findD_no
end
section
variable {X : Cx} {W : WX} {a b e : Expr} {fa fb f : Fe} {pos p p2 pos2 : Pos} {k : Nat}
theorem g_dict {K : PySem.W.Frag} : GC K (fun xs H Q => ∃ (a : Addr) (ps : List Addr) (kvs : List (Key × V)), xs = [.ref a] ∧ SqL K H a (ps.map V.ref) ∧ Paired (fun p kv => SqT K H p [kV kv.1, kv.2]) ps kvs ∧
    ∀ p, H p = none → Q (.ref p) (upd H p (.dK (mergeK [] kvs)))) dictS := by
  intro F μ S H vs ds s Q o r e k
  unfold dictS at e
  split at e
  · rename_i xs
    cases q : pairsD xs with
    | none => rw [q] at e; cases e
    | some kvs =>
      rw [q] at e
      cases e
      obtain ⟨v, rfl, r1⟩ := rrs1 r
      obtain ⟨l, ws, rfl, hl, rr⟩ := r1.lst o.sub
      obtain ⟨ps, ms, rfl, h1, h2⟩ := pairsD_of o.sub q rr
      refine ⟨l, ps, ms, rfl, SqL.of hl, h1, fun p hp => ?_⟩
      have hm := RPk.merge (.nil : RPk K F μ [] []) h2
      obtain ⟨g1, g2⟩ := hm.vals
      exact k F μ _ _ (.new o hp) (o.new hp) ⟨p, rfl, (o.free hp).1, (o.free hp).2, hp, .inl ⟨_, upd_same, g2.symm, g1⟩⟩
  · cases e
theorem se_dix (hr : Room k X.A) (ha : SE X W a fa) (hb : SE X W b fb) (hs : NoSl b := by intro _ _; rfl) : SE X W (.Subscript a b pos) (eDix fa fb) := PE.imp (pe_dget (by have := hr.un; omega) ha hb hs) fun σ H Q ⟨B, F, μ, S, δ, hs, ho⟩ => by
  refine wE_rd hs ho fun d S1 F1 μ1 H1 v t1 h1 v1 o1 => wE_rd h1 o1 fun y S2 F2 μ2 H2 u t2 h2 v2 o2 => ?_
  split at o2
  · rename_i ks vs k hk
    cases q : findD k ks vs with
    | none => rw [q] at o2; exact o2.elim
    | some d =>
      rw [q] at o2
      have hu := keyO1_V hk ((v2.rr h2).toH h2.ok.sub)
      subst hu
      rcases (v1.go t2) with r | ⟨_, _, e1, _⟩
      · cases r with
        | dctK hh rr =>
          obtain ⟨w, h3, h4⟩ := findD_at rr q
          exact ⟨_, w, rfl, .inl ⟨_, k, .inl (h2.ok.sub _ _ hh), rfl, h3.symm⟩, o2.same h2.ok h4⟩
        | dctT hh rr =>
          rw [findD_no'] at q
          cases q
      · cases e1
  · exact o2.elim
end
def rInOwn (C : Addr) (neg : Bool) (sp : Sp) (E : XK) : R2 := fun x y H Q => ∃ a dx fs, y = .ref a ∧ H a = some (.ins C dx fs) ∧ sp [.ref a, x] H (fun z H' => ∃ k, z = .bl k ∧ Q (.bl (neg ^^ k)) H') E
section
variable {X : Cx} {C f : Addr} {fd : FuncData} {ps : List Str} {sp : Sp} {E : XK} {k : Nat}
theorem op_inOwn (G : FnOk X.prog X.w X.K X.mg X.base (L2.CX X.prog X.w) k f fd ps sp) (hs : PySem.W.findIn X.K (.ref C) "__contains__" = some (some (.ref f))) (hf : PySem.W.isFn X.K (.ref f) = true) (hr : Room k X.A) (hb : Binds X.K fd ps []) (hx : Passes (L2.CX X.prog X.w) X E) (neg : Bool) :
    OpR X (compareOp (if neg then .NotIn else .In)) (rInOwn C neg sp E) := by
  intro pins s σ H x y v u Q I rx ry h
  obtain ⟨a, dx, fs, rfl, ha, q⟩ := h
  obtain rfl : u = Value.ref a := ry
  obtain ⟨mA, J, _⟩ := ins_get I.hok ha
  obtain ⟨od, J, _⟩ := J.look
  obtain ⟨m, hF⟩ := I.fr
  have hl := G.len _ _ _ _ q
  have main : wpAny (model X.prog X.w) X.A (call (.ref f) [.ref a, v]) (fun r s' => wpAny (model X.prog X.w) X.A (truthy r) (fun b s' => EP X pins σ Q (.bool (neg ^^ b)) s') X.xe s') X.xe s := by
    refine wpAny_call (codeAny_mono (G.run X.A X.stack s H ⟨[.ref a, v], []⟩ [.ref a, v] [.ref a, x] _ E hr I.env0 (by
      have := hb s [.ref a, v] I.kIn (by simpa using hl)
      simpa using this) (.cons rfl (.cons rx .nil)) q) fun r s' hq => ?_)
    cases r with
    | error e => exact hx pins σ H s e s' I hq
    | ok fl =>
      cases fl with
      | ret w =>
        obtain ⟨z, H', I', rz, k, ez, qz⟩ := I.after hq
        subst ez
        cases rz
        exact wpAny_truthy_bool ⟨.bl (neg ^^ k), H', I', rfl, qz⟩
      | next => exact False.elim hq
      | brk => exact False.elim hq
      | cont => exact False.elim hq
  cases neg with
  | false => exact PySem.W.in_K hF I.ok.mod.kin J hs hf (by simpa using main)
  | true => exact PySem.W.notIn_K hF I.ok.mod.kin J hs hf (by simpa using main)
end
def eInOwn (c : Nat) (neg : Bool) (h : Fn) (fa fb : Fe) : Fe := fun δ S => (fA [fa, fb] δ S).bind fun ss S => match ss with
  | [a, .pl (.ins c' fs)] => if c' = c then (match h [.pl (.ins c fs), a] S with
    | .ok (.pl (.bl k)) S => .ok (.pl (.bl (neg ^^ k))) S
    | _ => .st) else .st
  | _ => .st
section
variable {X : Cx} {W : WX} {a b : Expr} {fa fb : Fe} {pos : Pos} {f : Addr} {fd : FuncData} {ps : List Str} {k c : Nat} {h : Fn}
theorem inOwn_of {K : PySem.W.Frag} {neg : Bool} {σ : L2.St} {H : Hp} {Q : VK} (hw : wE K W (eInOwn c neg h fa fb) σ H Q) : tOp (rInOwn (cA K c) neg (spF K 2 h) E0) (wE K W fa) (wE K W fb) σ H Q := by
  have q : wA K W (fA [fa, fb]) σ H fun vs H2 => ∃ x y, vs = [x, y] ∧ rInOwn (cA K c) neg (spF K 2 h) E0 x y H2 Q := by
    obtain ⟨B, F, μ, S, δ, hs, ho⟩ := hw
    refine wA_bind (G := fun F μ H r => OE K W F μ H σ δ Q r) hs (fun _ _ h => h) (fun h => h) (fun _ _ _ _ t h => OE.go t h) ho fun ss S1 F1 μ1 H1 vs t1 h1 r1 o1 => ?_
    split at o1
    · rename_i a0 c' fs
      split at o1
      · rename_i ec
        subst ec
        cases r1 with
        | cons ra rr =>
          cases rr with
          | cons rb rr =>
            cases rr
            have rb2 := rb
            cases (show Rp K F1 μ1 _ (.ins c' fs) from rb) with
            | ins hh n r =>
              have ar : ARs K F1 μ1 H1 _ [a0] := VAs.ar h1 (.cons ra .nil)
              cases ar with
              | cons ar _ =>
                refine ⟨_, _, rfl, _, _, _, rfl, h1.ok.sub _ _ hh, F1, μ1, S1, [.pl (.ins c' fs), a0], rfl, h1.ok, .cons rb2 (.cons ar .nil), ?_⟩
                cases e : h [.pl (.ins c' fs), a0] S1 with
                | st => rw [e] at o1; exact o1.elim
                | ex _ _ => rw [e] at o1; exact o1.elim
                | ok s S2 =>
                  rw [e] at o1
                  cases s with
                  | pl d =>
                    cases d <;> first | exact o1.elim | skip
                    case bl kk =>
                      intro F2 μ2 H2 v t2 o2 r2
                      cases (show Rp K F2 μ2 v (.bl kk) from r2)
                      exact ⟨kk, rfl, o1 F2 μ2 H2 _ t2 o2 (.bl _)⟩
                  | _ => exact o1.elim
      · exact o1.elim
    · exact o1.elim
  have q2 := cons_of q
  obtain ⟨B, F, μ, S, δ, hs, ho⟩ := q2
  refine ⟨B, F, μ, S, δ, hs, ?_⟩
  cases e : fa δ S with
  | st => rw [e] at ho; exact ho
  | ex x S1 => rw [e] at ho; exact ho
  | ok s S1 =>
    rw [e] at ho
    intro F' μ' H' v t o r
    obtain ⟨B2, F2, μ2, S2, δ2, hs2, ho2⟩ := cons_of (ho F' μ' H' v t o r)
    refine ⟨B2, F2, μ2, S2, δ2, hs2, ?_⟩
    cases e2 : fb δ2 S2 with
    | st => rw [e2] at ho2; exact ho2
    | ex x S1 => rw [e2] at ho2; exact ho2
    | ok s2 S3 =>
      rw [e2] at ho2
      intro F3 μ3 H3 v3 t3 o3 r3
      obtain ⟨B4, F4, μ4, S4, δ4, hs4, ho4⟩ := ho2 F3 μ3 H3 v3 t3 o3 r3
      obtain ⟨x, y, ex, q⟩ := ho4 F4 μ4 H3 [] (.refl _ _ _) hs4.ok .nil
      cases ex
      exact q
theorem st_inOwn (G : FnOk X.prog X.w X.K X.mg X.base (L2.CX X.prog X.w) k f fd ps (spF X.K 2 h)) (hs : PySem.W.findIn X.K (.ref (cA X.K c)) "__contains__" = some (some (.ref f))) (hf : PySem.W.isFn X.K (.ref f) = true) (hr : Room k X.A) (hb : Binds X.K fd ps []) (ha : SE X W a fa) (hbb : SE X W b fb)
    (hm : behindInMarks .In b = false) : ST X W (.Compare a [.In] [b] pos) (tB' (eInOwn c false h fa fb)) := PT.imp (pt_cmpR (op_inOwn G hs hf hr hb (passL (X := X)) false) ha hbb hm) fun _ _ _ q => tB_of (fun _ _ _ => inOwn_of) q
theorem st_ninOwn (G : FnOk X.prog X.w X.K X.mg X.base (L2.CX X.prog X.w) k f fd ps (spF X.K 2 h)) (hs : PySem.W.findIn X.K (.ref (cA X.K c)) "__contains__" = some (some (.ref f))) (hf : PySem.W.isFn X.K (.ref f) = true) (hr : Room k X.A) (hb : Binds X.K fd ps []) (ha : SE X W a fa) (hbb : SE X W b fb)
    (hm : behindInMarks .NotIn b = false) : ST X W (.Compare a [.NotIn] [b] pos) (tB' (eInOwn c true h fa fb)) := PT.imp (pt_cmpR (op_inOwn G hs hf hr hb (passL (X := X)) true) ha hbb hm) fun _ _ _ q => tB_of (fun _ _ _ => inOwn_of) q
end
end Gt
set_option Elab.async false
set_option linter.all false
set_option maxRecDepth 100000
namespace Gt
open PySem PySem.Spec PyProof.Rows L2 He He5
def pgA (c x : Str) (K : PySem.W.Frag) : Addr := match PySem.W.recIn K (ma K (ga K c) x) "property" with
  | some (.ref g :: _) => g
  | _ => 0
def propB (K : PySem.W.Frag) (c x : Str) : Bool := eqO (PySem.W.findIn K (.ref (ga K c)) x) (some (some (.ref (ma K (ga K c) x)))) && (eqO (PySem.W.specialIn K (.ref (ma K (ga K c) x)) "__get__") (some (some (.builtin "property.__get__"))) && (decide (PySem.W.takesIn K (.ref (ma K (ga K c) x)) = some true) && (match PySem.W.recIn K (ma K (ga K c) x) "property" with
  | some (.ref _ :: _) => true
  | _ => false)))
theorem propB_ok {K : PySem.W.Frag} {c x : Str} (h : propB K c x = true) : PropOf K (ga K c) x (ma K (ga K c) x) (pgA c x K) := by
  obtain ⟨h1, h⟩ := ba h
  obtain ⟨h2, h⟩ := ba h
  obtain ⟨h3, h4⟩ := ba h
  refine ⟨eqO_ok h1, eqO_ok h2, of_decide_eq_true h3, ?_⟩
  unfold pgA
  cases q : PySem.W.recIn K (ma K (ga K c) x) "property" with
  | none => rw [q] at h4; cases h4
  | some l =>
    rw [q] at h4
    cases l with
    | nil => cases h4
    | cons v r =>
      cases v <;> first | cases h4 | skip
      exact ⟨r, rfl⟩
def conB (K : PySem.W.Frag) (c y : Str) (n : Int) : Bool := PySem.W.readsIn K (ga K c) (.type "type") && (eqO (PySem.W.specialIn K (.ref (ga K c)) "__getattribute__") (some (some (.builtin "type.__getattribute__"))) && (match PySem.W.findCls K (.ref (ga K c)) (.type "type") y with
  | some (.val (.int j _)) => decide (j = n)
  | _ => false))
theorem conB_ok {K : PySem.W.Frag} {c y : Str} {n : Int} (h : conB K c y n = true) : ClX.CRead K (ga K c) (.type "type") ∧ ∃ u, ClX.CVal K (ga K c) (.type "type") y (.int n) u := by
  obtain ⟨h1, h⟩ := ba h
  obtain ⟨h2, h3⟩ := ba h
  refine ⟨⟨h1, eqO_ok h2⟩, ?_⟩
  cases q : PySem.W.findCls K (.ref (ga K c)) (.type "type") y with
  | none => rw [q] at h3; cases h3
  | some r =>
    rw [q] at h3
    cases r with
    | val v =>
      cases v <;> first | cases h3 | skip
      case int j t =>
        have e := of_decide_eq_true h3
        subst e
        exact ⟨_, q, ⟨t, rfl⟩⟩
    | _ => cases h3
abbrev AlE : Type := AlD × Bool
def obsE (fa : List He.Fa) (fn : List DefA) (ex : PySem.W.Frag → Bool) (K : PySem.W.Frag) : AlE := (obsA fa fn K, ex K)
def valE (fn : List DefA) : AlE := (valA fn, true)
def SaysE (fa : List He.Fa) (fn : List DefA) (ex : PySem.W.Frag → Bool) (K : PySem.W.Frag) : Prop := obsE fa fn ex K = valE fn
def obsEG (n : Nat) (fa : List He.Fa) (fn : List DefA) (ex : PySem.W.Frag → Bool) (g : Addr → Option Obj) : AlE := obsE fa fn ex (frG g (asA g n))
def hookE (n : Nat) (fa : List He.Fa) (fn : List DefA) (ex : PySem.W.Frag → Bool) : PySem.W.Hook where
  α := AlE
  obs := fun s => obsEG n fa fn ex s.heap.get?
  val := fun _ => valE fn
  says := fun _ h => ∃ K : PySem.W.Frag, K.In h ∧ SaysE fa fn ex K
  of := fun _ _ e => ⟨_, frG_in, e⟩
  keeps := fun _ _ _ ⟨K, hK, c⟩ k => ⟨K, PySem.W.Frag.In.keeps hK k, c⟩
theorem obsEG_eq {n : Nat} {fa : List He.Fa} {fn : List DefA} {ex : PySem.W.Frag → Bool} {g : Addr → Option Obj} {s : Shared} (h : ∀ a, g a = s.heap.get? a) : obsEG n fa fn ex g = (hookE n fa fn ex).obs s := by
  have e : g = s.heap.get? := funext h
  rw [e] <;> rfl
section
variable {fa : List He.Fa} {fn : List DefA} {ex : PySem.W.Frag → Bool} {K : PySem.W.Frag}
theorem SaysE.a (c : SaysE fa fn ex K) : SaysA fa fn K := congrArg (fun z : AlE => z.1) c
theorem SaysE.x (c : SaysE fa fn ex K) : ex K = true := congrArg (fun z : AlE => z.2) c
end
end Gt
set_option Elab.async false
set_option linter.all false
set_option maxHeartbeats 400000
namespace Gt
open PySem PySem.Spec PyProof.Rows L2 RZ StX
theorem prop_ins {c k : Nat} : ∀ (d : D) (S : Ms) (s : Sl) (S' : Ms), runB (sRet (eFld c k (eV 0))) 1 [.pl d] S = .ok s S' → ∃ ds, d = .ins c ds := by
  intro d S s S' h
  cases d with
  | ins c' ds =>
    by_cases e : c' = c
    · exact ⟨ds, by rw [e]⟩
    · simp [runB, sRet, eFld, rd, rd1, eV, toD, Rs.bind, e] at h
  | _ => simp [runB, sRet, eFld, rd, rd1, eV, toD, Rs.bind] at h
end Gt
set_option Elab.async false
set_option linter.all false
set_option maxRecDepth 100000
namespace Gt
open PySem PySem.Spec PyProof.Rows L2 RZ StX
section
variable {prog : Program} {w : World} {A : Around} {E : Value → Shared → Prop} {s : Shared}
theorem inplace_seq {a b : Value} {T id : String} {Q : Value → Shared → Prop} (ha : s.TypeIs a T) (hb : s.TypeIs b T)
    (hf : typeLookup (.type T) (dunderI "add") = pure (some (.builtin id))) (hs : isSeqSlot (some (.builtin id)) = true) (hfill : fillsNumberSlot (.type T) "add" = pure false)
    (hc : wpAny (model prog w) A (call (.builtin id) [a, b]) Q E s) : wpAny (model prog w) A (inplaceOp .Add a b) Q E s := by
  unfold inplaceOp
  refine wpAny_holding ?_
  have hfi : fillsInplaceSlot (.type T) "add" (Operator.Add == .Add) = pure false := by
    unfold fillsInplaceSlot
    show (typeLookup (.type T) (dunderI "add") >>= fun fi => pure (fi.isSome && !isSeqSlot fi)) = pure false
    rw [hf]
    show (pure ((some (Value.builtin id)).isSome && !isSeqSlot (some (Value.builtin id))) : Sem Bool) = pure false
    rw [hs]; rfl
  have hsi : seqSlot? (.type T) (dunderI "add") = pure (some (.builtin id)) := PySem.seqSlot_of hf hs
  refine wpAny_bind (wpAny_typeOf ha (wpAny_bind (wpAny_of_eq hfi ?_)))
  show wpAny _ A (if false = true then _ else _) Q E s
  rw [if_neg Bool.false_ne_true]
  refine wpAny_bind (PySem.wpAny_binaryOp1_none (nm := "add") ha hb hfill ?_)
  refine wpAny_bind (wpAny_of_eq hsi ?_)
  exact wpAny_bind (wpAny_rule hc)
end
def rIExt : TIp := fun x y H Q => ∃ l b xs zs, x = .ref l ∧ y = .ref b ∧ H l = some (.lst xs) ∧ H b = some (.lst zs) ∧ xs.length + zs.length ≤ sizeLine ∧ Q (.ref l) (upd H l (.lst (xs ++ zs)))
theorem ip_ext {X : Cx} : PIp X .Add rIExt := by
  intro pins s σ H x y v u Q I r1 r2 h
  obtain ⟨l, b, xs, zs, rfl, rfl, hH, hB, hz, q⟩ := h
  cases r1
  cases r2
  obtain ⟨z, its, n, r, hl, e⟩ := I.lstM hH
  obtain ⟨z2, its2, n2, r2, hl2, e2⟩ := I.lstM hB
  have hsz : its.toArray.size + its2.toArray.size ≤ sizeLine := by rw [List.size_toArray, List.size_toArray]; omega
  have hlong : ¬ (!its.toArray.isEmpty && Builtin.List.listTooLong (its.toArray.size + its2.toArray.size)) = true := by
    rw [notLongL hsz, Bool.and_false]
    exact Bool.false_ne_true
  refine inplace_seq (T := "list") ⟨_, e, rfl⟩ ⟨_, e2, rfl⟩ PySem.F.slot_list_iadd.lookup (by decide +kernel) noFill_list_add ?_
  refine call_meets F.slot_list_iadd ⟨_, e, rfl⟩ F.entry_list_iadd (F.args_list_iadd_2 _ _)
    (AutoSeq1.list___iadd___list_list_0 l its.toArray n b its2.toArray n2 hlong (by rw [List.size_toArray]; omega) (by omega)) ⟨e, e2, ?_⟩
  refine ⟨.ref l, _, I.lset (its' := its ++ its2) hH e (by simp) (r.append r2) ?_, rfl, q⟩
  rw [List.length_append]
  omega
def sExt (i : Nat) (f : Fe) : Fs := fun δ S => match δ[i]? with
  | some (.own xs) => (f δ S).bind fun a S => (match toP a with
    | some d => (match d with
      | .lst ys => if xs.length + ys.length ≤ cap then .ok (.nx (δ.set i (.own (xs ++ ys)))) S else .st
      | _ => .st)
    | none => .st)
  | _ => .st
section
variable {X : Cx} {W : WX} {e : Expr} {f : Fe} {pos p : Pos}
theorem set_same {σ : L2.St} {i : Nat} {v : Option V} (h : σ[i]? = some v) : σ.set i v = σ := by
  obtain ⟨hi, rfl⟩ := List.getElem?_eq_some_iff.mp h
  exact List.set_getElem_self hi
theorem ss_ext {i : Nat} {x : Str} (h : PS X (.AugAssign (.Name x p) .Add e pos) (tAug i (wE X.K W f) rIExt)) : SS X W (.AugAssign (.Name x p) .Add e pos) (sExt i f) := PS.imp h fun D σ H ⟨B, F, μ, S, δ, hs, ho⟩ => by
  unfold sExt at ho
  split at ho
  · rename_i xs e1
    obtain ⟨a, vs, z, hp, r, nF, nM, hb⟩ := hs.sl i _ e1
    have za := hs.addr e1 z
    refine ⟨_, za, ?_⟩
    refine wE_P hs ho fun d S1 F1 μ1 H1 v t h1 r1 o1 => ?_
    cases d <;> simp only at o1
    case lst ys =>
      by_cases c : xs.length + ys.length ≤ cap
      · rw [if_pos c] at o1
        obtain ⟨a', vs', z', hp', r', nF', nM', hb'⟩ := h1.sl i _ e1
        rw [z] at z'
        cases z'
        cases r1 with
        | lst hq rr =>
          refine ⟨a, _, vs', _, rfl, rfl, hp', h1.ok.sub _ _ hq, ?_, ?_⟩
          · rw [r'.len, rr.len]; exact Nat.le_trans c (by decide)
          · have := o1 F1 μ1 σ _ (h1.mut e1 rfl za rfl hb ⟨a, _, rfl, upd_same, r'.app rr, nF', nM', hb⟩)
            show D.nx (σ.set i (some (V.ref a))) _
            rw [set_same za]
            exact this
      · rw [if_neg c] at o1
        exact o1.elim
    all_goals exact o1.elim
  · exact ho.elim
end
def firstD (y : D) : List D → Nat → Option Nat
  | [], _ => none
  | x :: xs, k => if PyData.eqv (toPy x) (toPy y) = true then some k else firstD y xs (k + 1)
def indexS : D → D → Option Sl
  | .lst xs, y => if okp y && okp (.lst xs) then (firstD y xs 0).map fun j => .pl (.int (j : Nat)) else none
  | _, _ => none
def isL : D → Bool
  | .lst _ => true
  | _ => false
def eML (g : D → D → Option Sl) (fa fb : Fe) : Fe := fun δ S => (rd fa δ S).bind fun x S => if isL x = true then (rd fb δ S).bind fun y S => lift (g x y) S else .st
theorem firstD_some {y : D} : ∀ {xs : List D} {k j : Nat}, firstD y xs k = some j → k ≤ j ∧ (∃ z, xs[j - k]? = some z ∧ PyData.eqv (toPy z) (toPy y) = true) ∧ ∀ m z, m < j - k → xs[m]? = some z → PyData.eqv (toPy z) (toPy y) = false
  | [], k, j, h => by cases h
  | x :: xs, k, j, h => by
    unfold firstD at h
    by_cases c : PyData.eqv (toPy x) (toPy y) = true
    · rw [if_pos c] at h
      cases h
      exact ⟨Nat.le_refl _, ⟨x, by simp, c⟩, fun m z hm => by omega⟩
    · rw [if_neg c] at h
      obtain ⟨h1, ⟨z, h2, h3⟩, h4⟩ := firstD_some h
      refine ⟨by omega, ⟨z, ?_, h3⟩, fun m u hm hu => ?_⟩
      · rw [show j - k = (j - (k + 1)) + 1 from by omega, List.getElem?_cons_succ]; exact h2
      · cases m with
        | zero => simp at hu; subst hu; simpa using c
        | succ m => exact h4 m u (by omega) (by simpa using hu)
section
variable {X : Cx} {W : WX} {a b : Expr} {fa fb : Fe} {pos apos : Pos}
theorem g_index {K : PySem.W.Frag} : G2 K (fun x y H Q => rIndexD K x [y] H Q) indexS := by
  intro F μ S H x y dx dy s Q o rx ry e k
  cases dx <;> simp only [indexS, reduceCtorEq] at e
  case lst xs =>
    split at e
    · rename_i c
      rw [Bool.and_eq_true] at c
      obtain ⟨c1, c2⟩ := okp_iff c.1
      obtain ⟨c3, c4⟩ := okp_iff c.2
      cases q : firstD dy xs 0 with
      | none => rw [q] at e; cases e
      | some j =>
        rw [q] at e
        cases e
        obtain ⟨_, ⟨z, h2, h3⟩, h4⟩ := firstD_some q
        obtain ⟨p, vs, rfl, hp, r⟩ := rx.lst o.sub
        have dx := ((rx.toH o.sub).dp c3)
        have dy' := ((ry.toH o.sub).dp c1)
        have gA : ∀ (ys : List D) (m : Nat), (toPyA ys)[m]? = (ys[m]?).map toPy := fun ys => by
          induction ys with
          | nil => intro m; simp [toPyA]
          | cons y ys ih => intro m; cases m with
            | zero => simp [toPyA]
            | succ m => simpa [toPyA] using ih m
        refine ⟨p, y, _, toPyA xs, j, toPy z, rfl, rfl, ?_, dy', ?_, c2, ?_, h3, fun m z' hm hz => ?_, end_pl o (fun _ _ => .int _) k⟩
        · simpa [toPy] using dx
        · simpa [toPy] using c4
        · rw [gA, show j = j - 0 from rfl, h2]; rfl
        · rw [gA] at hz
          cases qq : xs[m]? with
          | none => rw [qq] at hz; cases hz
          | some u =>
            rw [qq] at hz
            cases hz
            exact h4 m u (by omega) qq
    · cases e
theorem se_index (hr : X.A.units + 65 < cLine) (ha : SE X W a fa) (hb : SE X W b fb)
    (hbase : attributeBase a "index" X.env (eval a X.env) = eval a X.env := by rfl)
    (hfew : ((backTo pos (starEach [b] X.env)).all (fun x => !x.1) && (backToKw pos (keywordEach [] X.env)).all (fun x => x.1.isSome)
      && decide ([b].length + ([] : List Keyword).length + (if ([] : List Keyword).isEmpty then 0 else 1) < 30)) = true := by rfl)
    (hline : (apos.endLine == pos.line) = true := by rfl) (hs : starEach [b] X.env = (false, eval b X.env) :: starEach [] X.env := by rfl) (hplain : (backTo pos (starEach [] X.env)).any (·.1) = false := by rfl) :
    SE X W (.Call (.Attribute a "index" apos) [b] [] pos) (eML indexS fa fb) :=
  PE.imp (pe_bm PySem.F.plainAttrs_list PySem.F.slot_list_index PySem.F.type_list_index (mt_indexD hr) ha (pa_cons hb pa_nil hs) hbase hfew hline hs hplain) fun σ H Q ⟨B, F, μ, S, δ, hs, ho⟩ => by
    refine wE_rd hs ho fun x S1 F1 μ1 H1 v t1 h1 v1 o1 => ?_
    cases x <;> simp only [isL, if_true, Bool.false_eq_true, if_false] at o1
    case lst xs =>
      obtain ⟨p, vs, rfl, hp, r⟩ := (v1.rr h1).lst h1.ok.sub
      refine ⟨.inl ⟨rfl, _, SqL.of hp⟩, wE_rd h1 o1 fun y S2 F2 μ2 H2 u t2 h2 v2 o2 => ?_⟩
      cases e : indexS (.lst xs) y with
      | none => rw [e] at o2; exact o2.elim
      | some s =>
        rw [e] at o2
        exact g_index h2.ok ((v1.go t2).rr h2) (v2.rr h2) e fun F3 μ3 H3 w t3 o3 r3 => o2 F3 μ3 H3 w t3 o3 r3.of_nil
    all_goals exact (show False from o1).elim
end
def rngS (lo c : Int) (n : Nat) : List D := (List.range n).map fun i => .int (lo + (i : Nat) * c)
def iRng3' (fs : List Fe) : Fi := fun δ S => (fA fs δ S).bind fun ss S => match ss with
  | [.pl (.int i), .pl (.int j), .pl (.int c)] => if decide (0 ≤ i) && (decide (j ≤ 1000000000) && (decide (1 ≤ c) && decide (c ≤ 1000000000) && decide (i ≤ j))) then .ok (rngS i c ((j - i + c - 1) / c).toNat) S else .st
  | _ => .st
theorem walk_rngS {K : PySem.W.Frag} {lo c : Int} {n : Nat} : Walk K (Itc lo c n) (rngS lo c n) fun _ _ _ => True where
  go := fun {F μ S H k d} o _ e => by
    unfold rngS at e
    rw [List.getElem?_map] at e
    have hk : k < n := by
      by_cases c : k < n
      · exact c
      · rw [List.getElem?_eq_none (by rw [List.length_range]; omega)] at e
        cases e
    rw [List.getElem?_range hk] at e
    cases e
    exact ⟨hk, fun x H' ⟨e1, e2⟩ => by subst e1 e2; exact ⟨F, .refl _ _ _, o, .int _⟩⟩
  stop := fun {F μ S H k} o _ hk => by
    show n ≤ k
    unfold rngS at hk
    simpa using hk
theorem rgc_of {i j c : Int} (h0 : 0 ≤ i) (h1 : j ≤ 1000000000) (h2 : 1 ≤ c) (h3 : c ≤ 1000000000) (h4 : i ≤ j) : RgC i j c ((j - i + c - 1) / c).toNat := by
  have hs : Builtin.Range.rangeSize i j c = (j - i + c - 1) / c := by
    unfold Builtin.Range.rangeSize
    rw [if_pos (by omega)]
    split
    · have e : j - i + c - 1 = (j - i - 1) + 1 * c := by omega
      rw [e, Int.add_mul_ediv_right _ _ (by omega)]
    · have e0 : j - i = 0 := by omega
      rw [e0, Int.ediv_eq_zero_of_lt (by omega) (by omega)]
  have hn : 0 ≤ (j - i + c - 1) / c := Int.ediv_nonneg (by omega) (by omega)
  have hb : (j - i + c - 1) / c ≤ j - i + c - 1 := Int.ediv_le_self _ (by omega)
  refine ⟨by omega, by omega, ?_, ?_⟩
  · unfold Builtin.Range.small
    rw [hs]
    simp only [Builtin.Range.rangeFitsLong, Bool.and_eq_true, Bool.or_eq_true, decide_eq_true_eq, beq_iff_eq]
    have e63 : (2 : Int) ^ 63 = 9223372036854775808 := by decide
    rw [e63]
    refine ⟨⟨⟨⟨?_, ?_⟩, ?_⟩, ?_⟩, ?_⟩ <;> first | omega | (right; rw [if_pos (by omega)]; simp only [Bool.and_eq_true, decide_eq_true_eq]; omega)
  · rw [hs]; omega
section
variable {X : Cx} {W : WX} {a b c tg : Expr} {fa fb fc : Fe} {pos p : Pos} {keep : Option (List Nat)}
theorem si_rng3 (hg : Gl X "range") (hm : X.mg "range" = none) (ha : SA X W [a, b, c] (fA [fa, fb, fc]))
    (hs : starEach [a, b, c] X.env = (false, eval a X.env) :: starEach [b, c] X.env := by rfl) (hpl : (backTo pos (starEach [b, c] X.env)).any (·.1) = false := by rfl) :
    SI X W keep tg (.Call (.Name "range" p) [a, b, c] [] pos) (iRng3' [fa, fb, fc]) :=
  PI.imp (pi_range3 hg hm ha hs hpl) fun σ H R ⟨B, F, μ, S, δ, hs, ho⟩ => wA_I hs ho fun ss S1 F1 μ1 H1 vs t1 h1 r o1 => by
    split at o1
    · rename_i i j c
      cases r with
      | cons r rr =>
        cases rr with
        | cons r2 rr =>
          cases rr with
          | cons r3 rr =>
            cases rr
            cases (show Rp _ _ _ _ _ from r)
            cases (show Rp _ _ _ _ _ from r2)
            cases (show Rp _ _ _ _ _ from r3)
            split at o1
            · rename_i q
              simp only [Bool.and_eq_true, decide_eq_true_eq] at q
              obtain ⟨q1, q2, ⟨q3, q4⟩, q5⟩ := q
              exact ⟨i, j, c, _, rfl, rgc_of q1 q2 q3 q4 q5, o1 F1 μ1 H1 _ _ (.refl _ _ _) h1.ok walk_rngS fun _ _ _ _ _ _ _ _ _ _ _ _ => trivial⟩
            · exact (show False from o1).elim
    · exact (show False from o1).elim
end
end Gt
set_option Elab.async false
set_option linter.all false
set_option maxRecDepth 100000
namespace Gt
open PySem PySem.Spec PyProof.Rows L2 RZ StX
mutual
def lf : D → Bool
  | .lst _ => false
  | .scr _ => false
  | .dct _ _ => false
  | .tup xs => lfA xs
  | .ins _ xs => lfA xs
  | _ => true
def lfA : List D → Bool
  | [] => true
  | x :: xs => lf x && lfA xs
end
def lfO : MO → Bool
  | .lst xs => lfA xs
  | .ins _ xs => lfA xs
def lfM (S : Ms) : Bool := S.all lfO
def lfS : Sl → Bool
  | .pl d => lf d
  | _ => false
def nlO : HO → Option HO
  | .lst _ => none
  | .dK _ => none
  | .dT _ => none
  | o => some o
def nl (F : Hp) : Hp := fun a => (F a).bind nlO
theorem nl_some {F : Hp} {a : Addr} {o : HO} (h : nl F a = some o) : F a = some o := by
  unfold nl at h
  cases q : F a with
  | none => rw [q] at h; cases h
  | some u =>
    rw [q] at h
    cases u <;> simp only [nlO, Option.bind_some, reduceCtorEq] at h <;> first | exact h | cases h
theorem nl_sub (F : Hp) : Sub (nl F) F := fun a o h => nl_some h
theorem nl_none {F : Hp} {a : Addr} (h : F a = none) : nl F a = none := by unfold nl; rw [h]; rfl
section
variable {K : PySem.W.Frag} {F : Hp} {μ : List Addr}
mutual
theorem Rp.nl : ∀ {v : V} {d : D}, lf d = true → Rp K F μ v d → Rp K (nl F) μ v d
  | _, _, _, .non => .non
  | _, _, _, .bl b => .bl b
  | _, _, _, .int i => .int i
  | _, _, _, .str x => .str x
  | _, _, e, .lst _ _ => by simp [lf] at e
  | _, _, e, .scr _ => by simp [lf] at e
  | _, _, e, .dctK _ _ => by simp [lf] at e
  | _, _, e, .dctT _ _ => by simp [lf] at e
  | _, _, e, .tup h r => .tup (by
      unfold Gt.nl; rw [h]; rfl) (RpA.nl (by simpa [lf] using e) r)
  | _, _, e, .ins h n r => .ins (by unfold Gt.nl; rw [h]; rfl) n (RpA.nl (by simpa [lf] using e) r)
  | _, _, _, .ref h => .ref h
theorem RpA.nl : ∀ {vs : List V} {ds : List D}, lfA ds = true → RpA K F μ vs ds → RpA K (nl F) μ vs ds
  | _, _, _, .nil => .nil
  | _, _, e, .cons h t => by
    simp only [lfA, Bool.and_eq_true] at e
    exact .cons (Rp.nl e.1 h) (RpA.nl e.2 t)
end
theorem MoR.nl {o : Option HO} : ∀ {x : MO}, lfO x = true → MoR K F μ o x → MoR K (nl F) μ o x
  | .lst _, e, ⟨vs, h, r⟩ => ⟨vs, h, r.nl e⟩
  | .ins _ _, e, ⟨dx, fs, h, n, r⟩ => ⟨dx, fs, h, n, r.nl e⟩
theorem lfM_at {S : Ms} (h : lfM S = true) {n : Nat} {o : MO} (e : S[n]? = some o) : lfO o = true := List.all_eq_true.mp h o (List.mem_of_getElem? e)
theorem Ok.nl {S : Ms} {H : Hp} (o : Ok K F μ S H) (h : lfM S = true) : Ok K (nl F) μ S H :=
  ⟨(nl_sub F).trans o.sub, fun a m => nl_none (o.fm a m), o.nd, o.ln, fun n a x e1 e2 => (o.mr n a x e1 e2).nl (lfM_at h e2)⟩
theorem ARs.nl {H : Hp} : ∀ {vs : List V} {ss : List Sl}, ss.all lfS = true → ARs K F μ H vs ss → ARs K (nl F) μ H vs ss
  | _, _, _, .nil => .nil
  | _, s :: _, e, .cons h t => by
    simp only [List.all_cons, Bool.and_eq_true] at e
    cases s <;> simp only [lfS, reduceCtorEq, Bool.false_eq_true, false_and] at e
    exact .cons (Rp.nl e.1 h) (ARs.nl e.2 t)
end
def eFnF (h : Fn) (fs : List Fe) : Fe := fun δ S => (fA fs δ S).bind fun ss S => match h ss S with
  | .ok (.pl (.lst ds)) S' => if ss.all lfS && lfM S && lfM S' && lfA ds then .ok (.own ds) S' else .st
  | .ok (.own ds) S' => .ok (.own ds) S'
  | .ok (.pl .non) S' => .ok (.pl .non) S'
  | _ => .st
theorem fresh_of {K : PySem.W.Frag} {F H : Hp} {μ : List Addr} {S S' : Ms} {ds : List D} {Q : VK} {E : XK} (ok : Ok K F μ S H) (hS : lfM S = true) (hS' : lfM S' = true) (hd : lfA ds = true)
    (q : ∀ F' μ' H' v, Stp F μ H F' μ' H' → Ok K F' μ' S' H' → VR K H [] [] F' μ' H' v (.own ds) → Q v H') : OF K (nl F) μ H Q E (.ok (.pl (.lst ds)) S') := by
  intro F1 μ1 H1 v t o r
  cases r with
  | lst hp ra =>
    rename_i p vs
    have hHp : H p = none := by
      rcases t.nf p _ hp with z | z | ⟨zm, _, z⟩
      · unfold Gt.nl at z
        cases q : F p with
        | none => exact absurd z (by rw [q]; exact fun z => by cases z)
        | some u =>
          rw [q] at z
          cases u <;> simp [nlO] at z
      · exact z
      · have h1 := t.kp p _ z zm
        rw [o.sub p _ hp] at h1
        cases h1
    have hFp : F p = none := ok.sub.none hHp
    let F2 : Hp := fun a => match F a with
      | some u => some u
      | none => Gt.nl F1 a
    have e1 : ∀ a u, F a = some u → F2 a = some u := fun a u h => by show (match F a with | some u => some u | none => Gt.nl F1 a) = _; rw [h]
    have e2 : ∀ a, F a = none → F2 a = Gt.nl F1 a := fun a h => by show (match F a with | some u => some u | none => Gt.nl F1 a) = _; rw [h]
    have inH : ∀ a u, F a = some u → H1 a = some u := fun a u h => t.kp a u (ok.sub a u h) fun m => by rw [ok.fm a m] at h; cases h
    have sub2 : Sub (Gt.nl F1) F2 := fun a u h => by
      cases q : F a with
      | none => rw [e2 a q]; exact h
      | some w =>
        have h1 := o.sub a u (nl_some h)
        rw [inH a w q] at h1
        cases h1
        exact e1 a u q
    have nM : p ∉ μ1 := fun m => by rw [o.fm p m] at hp; cases hp
    refine q F2 μ1 H1 _ ⟨fun a u h => e1 a u h, t.mu, t.kp, t.tr, fun a u h => ?_, t.nm⟩ ⟨fun a u h => ?_, fun a m => ?_, o.nd, o.ln, fun n a x h1 h2 => (MoR.nl (lfM_at hS' h2) (o.mr n a x h1 h2)).mono sub2 (.refl _)⟩ ⟨p, vs, rfl, o.sub _ _ hp, (ra.nl hd).mono sub2 (.refl _), ?_, nM, hHp⟩
    · cases q : F a with
      | some w => rw [e1 a w q] at h; cases h; exact .inl rfl
      | none =>
        rw [e2 a q] at h
        rcases t.nf a u (nl_some h) with z | z | z
        · rw [nl_some z] at q; cases q
        · exact .inr (.inl z)
        · exact .inr (.inr z)
    · cases q : F a with
      | some w => rw [e1 a w q] at h; cases h; exact inH a _ q
      | none => rw [e2 a q] at h; exact o.sub a u (nl_some h)
    · cases q : F a with
      | some w =>
        exfalso
        rcases t.nm a m with z | z
        · rw [ok.fm a z] at q; cases q
        · rw [ok.sub a w q] at z; cases z
      | none => rw [e2 a q]; exact nl_none (o.fm a m)
    · rw [e2 p hFp]
      unfold Gt.nl
      rw [hp]; rfl
section
variable {X : Cx} {W : WX} {pos p : Pos} {f : Addr} {fd : FuncData} {ps : List Str} {k : Nat} {x : Str} {e : Expr} {es : List Expr} {fs : List Fe} {h : Fn} {n : Nat}
theorem se_fnF (F : FnOk X.prog X.w X.K X.mg X.base (L2.CX X.prog X.w) k f fd ps (spF X.K n h)) (hr : Room k X.A) (hg : Gl X x) (hm : X.mg x = some (.ref f)) (hk : PySem.W.keepIn X.K (.ref f) = true) (hb : Binds X.K fd ps []) (hn : fs.length = n) (tk : Takes X W)
    (ha : SA X W (e :: es) (fA fs)) (hdb : (x == ("__debug__" : Str)) = false := by decide) (he : starEach (e :: es) X.env = (false, eval e X.env) :: starEach es X.env := by rfl) (hpl : (backTo pos (starEach es X.env)).any (·.1) = false := by rfl) :
    SE X W (.Call (.Name x p) (e :: es) [] pos) (eFnF h fs) := PE.imp (pe_callSD F hr hg hm hk hb .nil (fun σ => passAt tk σ) ha hdb he hpl) fun σ H Q ⟨B, F, μ, S, δ, hs, ho⟩ => by
  have fl : ∀ (fs : List Fe) (δ : Evm) (S : Ms) (ss : List Sl) (S1 : Ms), fA fs δ S = .ok ss S1 → ss.length = fs.length := by
    intro fs
    induction fs with
    | nil => intro δ S ss S1 e; cases e; rfl
    | cons f fs ih =>
      intro δ S ss S1 e
      have e2 : ((f δ S).bind fun a S => match a with
        | .pl d => (fA fs δ S).bind fun r S => .ok (.pl d :: r) S
        | .bor xs => (fA fs δ S).bind fun r S => .ok (.bor xs :: r) S
        | .own xs => (fA fs δ S).bind fun r S => .ok (.pl (.lst xs) :: r) S
        | .od ks vs => (fA fs δ S).bind fun r S => .ok (.pl (.dct ks vs) :: r) S
        | _ => .st) = Rs.ok ss S1 := e
      have aux : ∀ (s : Sl) (S2 : Ms), ((fA fs δ S2).bind fun r S => Rs.ok (s :: r) S) = Rs.ok ss S1 → ss.length = (f :: fs).length := by
        intro s S2 e3
        cases e4 : fA fs δ S2 with
        | st => rw [e4] at e3; cases e3
        | ex _ _ => rw [e4] at e3; cases e3
        | ok r S3 =>
          rw [e4] at e3
          cases e3
          rw [List.length_cons, List.length_cons, ih _ _ _ _ e4]
      cases e3 : f δ S with
      | st => rw [e3] at e2; cases e2
      | ex _ _ => rw [e3] at e2; cases e2
      | ok a S2 =>
        rw [e3] at e2
        cases a with
        | pl d => exact aux _ _ e2
        | bor d => exact aux _ _ e2
        | own d => exact aux _ _ e2
        | od _ _ => exact aux _ _ e2
        | no => cases e2
        | oin _ _ => cases e2
  refine ⟨B, F, μ, S, δ, hs, ?_⟩
  have ho2 : OE X.K W F μ H σ δ Q ((fA fs δ S).bind fun ss S => match h ss S with
  | .ok (.pl (.lst ds)) S' => if ss.all lfS && lfM S && lfM S' && lfA ds then .ok (.own ds) S' else .st
  | .ok (.own ds) S' => .ok (.own ds) S'
  | .ok (.pl .non) S' => .ok (.pl .non) S'
  | _ => .st) := ho
  cases e : fA fs δ S with
  | st => rw [e] at ho2; exact ho2
  | ex x S1 => rw [e] at ho2; exact ho2
  | ok ss S1 =>
    rw [e, bind_ok] at ho2
    intro F1 μ1 H1 vs t o r
    have h1 := hs.go t o
    have ar := VAs.ar h1 r
    have hl : ss.length = n := by rw [fl _ _ _ _ _ e]; exact hn
    rw [List.append_nil]
    cases q : h ss S1 with
    | st => rw [q] at ho2; exact ho2.elim
    | ex _ _ => rw [q] at ho2; exact ho2.elim
    | ok s S2 =>
      rw [q] at ho2
      cases s with
      | own ds => exact ⟨F1, μ1, S1, ss, hl, o, ar, by rw [q]; exact OF.call (vs := vs) (as := ss) h1 (OE.go (r := .ok (.own ds) S2) t ho2)⟩
      | pl d =>
        cases d with
        | non => exact ⟨F1, μ1, S1, ss, hl, o, ar, by rw [q]; exact OF.call (vs := vs) (as := ss) h1 (OE.go (r := .ok (.pl .non) S2) t ho2)⟩
        | lst ds =>
          dsimp only at ho2
          by_cases c : (ss.all lfS && lfM S1 && lfM S2 && lfA ds) = true
          · rw [if_pos c] at ho2
            simp only [Bool.and_eq_true] at c
            refine ⟨Gt.nl F1, μ1, S1, ss, hl, o.nl c.1.1.2, ARs.nl c.1.1.1 ar, ?_⟩
            rw [q]
            refine fresh_of o c.1.1.2 c.1.2 c.2 fun F2 μ2 H2 v t2 o2 r2 => ?_
            exact (OE.go (r := .ok (.own ds) S2) t ho2) F2 μ2 H2 v t2 o2 r2.of_nil
          · rw [if_neg c] at ho2; exact ho2.elim
        | _ => exact (show False from ho2).elim
      | _ => exact (show False from ho2).elim
end
end Gt
set_option Elab.async false
set_option linter.all false
set_option maxRecDepth 100000
namespace Gt
open PySem PySem.Spec PyProof.Rows L2 RZ StX
def lock1 : Sl → Sl
  | .own ds => .bor ds
  | .od _ _ => .no
  | .oin _ _ => .no
  | s => s
def lockE (δ : Evm) : Evm := δ.map lock1
def unl1 : Sl → Sl → Sl
  | .own _, .bor ds => .own ds
  | .bor _, .bor ds => .bor ds
  | _, .bor _ => .no
  | _, .oin _ _ => .no
  | _, s => s
def unlkE : Evm → Evm → Evm
  | _, [] => []
  | [], s :: r => unl1 .no s :: unlkE [] r
  | a :: b, s :: r => unl1 a s :: unlkE b r
def loopL (i : Nat) (body : Fs) : List Sl → Evm → Ms → Rs Fl
  | [], δ, S => .ok (.nx δ) S
  | s :: r, δ, S => match s with
    | .pl d => if i < δ.length then (body (δ.set i (.pl d)) S).bind fun q S => (match q with
      | .nx δ' => loopL i body r δ' S
      | .ct δ' => loopL i body r δ' S
      | .bk δ' => .ok (.nx δ') S
      | .rt v => .ok (.rt v) S) else .st
    | .bor d => if i < δ.length then (body (δ.set i (.bor d)) S).bind fun q S => (match q with
      | .nx δ' => loopL i body r δ' S
      | .ct δ' => loopL i body r δ' S
      | .bk δ' => .ok (.nx δ') S
      | .rt v => .ok (.rt v) S) else .st
    | _ => .st
def notHeld : Option Sl → Bool
  | some (.own _) => false
  | some (.bor _) => false
  | _ => true
def sForL (i : Nat) (fs : List Fe) (body : Fs) : Fs := fun δ S => if notHeld (δ[i]?) = true then (fA fs δ S).bind fun ss S => if ss.length ≤ cap then (loopL i body ss (lockE δ) S).bind fun r S => (match r with
  | .nx δ' => .ok (.nx (unlkE δ δ')) S
  | .rt v => .ok (.rt v) S
  | _ => .st) else .st else .st
theorem lockE_get (δ : Evm) (j : Nat) : (lockE δ)[j]? = (δ[j]?).map lock1 := List.getElem?_map
theorem unlkE_len : ∀ (a b : Evm), (unlkE a b).length = b.length
  | a, [] => by cases a <;> rfl
  | [], s :: r => by rw [unlkE, List.length_cons, List.length_cons, unlkE_len]
  | _ :: b, s :: r => by rw [unlkE, List.length_cons, List.length_cons, unlkE_len]
theorem unlkE_get : ∀ (a b : Evm) (j : Nat), (unlkE a b)[j]? = (b[j]?).map (unl1 ((a[j]?).getD .no))
  | a, [], j => by cases a <;> simp [unlkE]
  | [], s :: r, 0 => by simp [unlkE]
  | [], s :: r, j + 1 => by rw [unlkE, List.getElem?_cons_succ, unlkE_get [] r j]; simp
  | _ :: b, s :: r, 0 => by simp [unlkE]
  | _ :: b, s :: r, j + 1 => by rw [unlkE, List.getElem?_cons_succ, unlkE_get b r j]; simp
def pnOf (δ : Evm) (σ : L2.St) (j : Nat) : Option Addr := match δ[j]? with
  | some (.own _) => (match σ[j]? with
    | some (some (.ref p)) => some p
    | _ => none)
  | some (.bor _) => (match σ[j]? with
    | some (some (.ref p)) => some p
    | _ => none)
  | _ => none
section
variable {K : PySem.W.Frag} {W : WX} {B : Bs} {F F' H H' : Hp} {μ μ' : List Addr} {S S' : Ms} {δ δ' : Evm} {σ σ' : L2.St}
theorem StR.putB (hs : StR K B F μ S δ σ H) {i : Nat} {ds : List D} {v : V} (hi : i < δ.length) (r : SR K B F μ H (some v) (.bor ds)) (hn : B.pn i = none) : StR K B F μ S (δ.set i (.bor ds)) (σ.set i (some v)) H := by
  have hl : i < σ.length := by rw [hs.len]; exact hi
  refine ⟨hs.ok, hs.st, by rw [List.length_set, List.length_set, hs.len], fun j t e => ?_, fun j k t u p e1 e2 o1 o2 z1 z2 => ?_, hs.an, hs.am, fun j p ds h1 h2 => ?_⟩
  · rw [join_set hl]
    by_cases q : j = i
    · subst q
      rw [List.getElem?_set_self hi] at e
      cases e
      rw [if_pos rfl]
      exact r
    · rw [List.getElem?_set_ne (Ne.symm q)] at e
      rw [if_neg q]
      exact hs.sl j t e
  · have q1 : j ≠ i := fun q => by subst q; rw [List.getElem?_set_self hi] at e1; cases e1; cases o1
    have q2 : k ≠ i := fun q => by subst q; rw [List.getElem?_set_self hi] at e2; cases e2; cases o2
    rw [List.getElem?_set_ne (Ne.symm q1)] at e1 z1
    rw [List.getElem?_set_ne (Ne.symm q2)] at e2 z2
    exact hs.dj j k t u p e1 e2 o1 o2 z1 z2
  · by_cases q : j = i
    · subst q; rw [hn] at h1; cases h1
    · rw [List.getElem?_set_ne (Ne.symm q)] at h2 ⊢
      exact hs.pn j p ds h1 h2
abbrev lockB (F : Hp) (μ : List Addr) (H : Hp) (δ : Evm) (σ : L2.St) : Bs := ⟨F, μ, H, F, μ, pnOf δ σ⟩
theorem StR.lock (hs : StR K B F μ S δ σ H) : StR K (lockB F μ H δ σ) F μ S (lockE δ) σ H := by
  refine ⟨hs.ok, .refl _ _ _, by rw [lockE, List.length_map]; exact hs.len, fun j t e => ?_, fun j k t u p e1 e2 o1 o2 z1 z2 => ?_, .refl _, .refl _, fun j p ds h1 h2 => ?_⟩
  · rw [lockE_get] at e
    cases q : δ[j]? with
    | none => rw [q] at e; cases e
    | some s =>
      rw [q] at e
      cases e
      have old := hs.sl j s q
      cases s with
      | no => trivial
      | pl d => exact old
      | own ds =>
        obtain ⟨p, vs, z, hp, r, nF, nM, hb⟩ := old
        exact ⟨p, vs, z, hp, r, nM⟩
      | bor ds =>
        obtain ⟨p, vs, z, hp, r, m⟩ := old
        exact ⟨p, vs, z, hs.st.kp _ _ hp m, r, fun hm => (hs.st.nm _ hm).elim m fun z => by rw [hp] at z; cases z⟩
      | od _ _ => trivial
      | oin _ _ => trivial
  · exfalso
    rw [lockE_get] at e1
    cases q : δ[j]? with
    | none => rw [q] at e1; cases e1
    | some s =>
      rw [q] at e1
      cases e1
      cases s <;> cases o1
  · rw [lockE_get] at h2
    have h1' : pnOf δ σ j = some p := h1
    unfold pnOf at h1'
    split at h1'
    · split at h1'
      · rename_i e; cases h1'; exact e
      · cases h1'
    · split at h1'
      · rename_i e; cases h1'; exact e
      · cases h1'
    · cases h1'
theorem pnOf_own (hs : StR K B F μ S δ σ H) {j : Nat} {ds : List D} (e : δ[j]? = some (.own ds)) : ∃ p vs, pnOf δ σ j = some p ∧ σ[j]? = some (some (.ref p)) ∧ H p = some (.lst vs) ∧ F p = none ∧ p ∉ μ ∧ B.H p = none := by
  obtain ⟨a, vs, z, hp, r, nF, nM, hb⟩ := hs.sl j _ e
  have za := hs.addr e z
  refine ⟨a, vs, ?_, za, hp, nF, nM, hb⟩
  unfold pnOf
  rw [e, za]
theorem pnOf_bor (hs : StR K B F μ S δ σ H) {j : Nat} {ds : List D} (e : δ[j]? = some (.bor ds)) : ∃ p vs, pnOf δ σ j = some p ∧ σ[j]? = some (some (.ref p)) ∧ H p = some (.lst vs) ∧ B.H p = some (.lst vs) ∧ p ∉ B.μ := by
  obtain ⟨a, vs, z, hp, r, nM⟩ := hs.sl j _ e
  have za := hs.addr e z
  refine ⟨a, vs, ?_, za, hs.st.kp _ _ hp nM, hp, nM⟩
  unfold pnOf
  rw [e, za]
theorem StR.unlock (h0 : StR K B F μ S δ σ H) (h : StR K (lockB F μ H δ σ) F' μ' S' δ' σ' H') : StR K B F' μ' S' (unlkE δ δ') σ' H' := by
  have st := h.st
  have pin : ∀ {j : Nat} {ds0 ds : List D} {p : Addr}, pnOf δ σ j = some p → δ'[j]? = some (.bor ds) → σ'[j]? = some (some (.ref p)) ∧ ∃ vs, H p = some (.lst vs) ∧ RpA K F' μ' vs ds ∧ p ∉ μ := by
    intro j ds0 ds p e1 e2
    have z := h.pn j p ds e1 e2
    obtain ⟨a, vs, z2, hp, r, m⟩ := h.sl j _ e2
    rw [z] at z2
    cases z2
    exact ⟨z, vs, hp, r, m⟩
  have ownC : ∀ {j : Nat} {s : Sl} {p : Addr}, (unlkE δ δ')[j]? = some s → isOwn s = true → σ'[j]? = some (some (.ref p)) → (∃ ds0, δ[j]? = some (.own ds0) ∧ σ[j]? = some (some (.ref p)) ∧ H p ≠ none) ∨ (δ'[j]? = some s ∧ H p = none) := by
    intro j s p e o z
    rw [unlkE_get] at e
    cases q : δ'[j]? with
    | none => rw [q] at e; cases e
    | some t =>
      rw [q] at e
      have e' : unl1 ((δ[j]?).getD .no) t = s := by simpa using e
      cases t with
      | bor ds =>
        cases q0 : δ[j]? with
        | none => rw [q0] at e'; subst e'; cases o
        | some s0 =>
          rw [q0] at e'
          cases s0 <;> simp only [Option.getD_some, unl1] at e' <;> subst e' <;> first | cases o | skip
          rename_i ds0
          obtain ⟨a, vs, e1, e2, hp, _⟩ := pnOf_own h0 q0
          obtain ⟨z2, _⟩ := pin (ds0 := ds0) e1 q
          rw [z] at z2
          cases z2
          exact .inl ⟨ds0, rfl, e2, by rw [hp]; exact fun z => by cases z⟩
      | own ds =>
        have es : s = .own ds := by
          cases q0 : δ[j]? with
          | none => rw [q0] at e'; exact e'.symm
          | some s0 => rw [q0] at e'; cases s0 <;> exact e'.symm
        subst es
        obtain ⟨a, vs, z2, hp, r, nF, nM, hb⟩ := h.sl j _ q
        rw [z] at z2
        cases z2
        exact .inr ⟨rfl, hb⟩
      | od ks ds =>
        have es : s = .od ks ds := by
          cases q0 : δ[j]? with
          | none => rw [q0] at e'; exact e'.symm
          | some s0 => rw [q0] at e'; cases s0 <;> exact e'.symm
        subst es
        obtain ⟨a, z2, nF, nM, hb, _⟩ := h.sl j _ q
        rw [z] at z2
        cases z2
        exact .inr ⟨rfl, hb⟩
      | oin c ds => exfalso; cases q0 : δ[j]? with
          | none => rw [q0] at e'; subst e'; cases o
          | some s0 => rw [q0] at e'; cases s0 <;> subst e' <;> cases o
      | no => exfalso; cases q0 : δ[j]? with
          | none => rw [q0] at e'; subst e'; cases o
          | some s0 => rw [q0] at e'; cases s0 <;> subst e' <;> cases o
      | pl d => exfalso; cases q0 : δ[j]? with
          | none => rw [q0] at e'; subst e'; cases o
          | some s0 => rw [q0] at e'; cases s0 <;> subst e' <;> cases o
  refine ⟨h.ok, h0.st.trans st, by rw [unlkE_len]; exact h.len, fun j t e => ?_, fun j k t u p e1 e2 o1 o2 z1 z2 => ?_, h0.an.trans h.an, h0.am.trans h.am, fun j p ds h1 h2 => ?_⟩
  · rw [unlkE_get] at e
    cases q : δ'[j]? with
    | none => rw [q] at e; cases e
    | some s =>
      rw [q] at e
      have e' : unl1 ((δ[j]?).getD .no) s = t := by simpa using e
      have old := h.sl j s q
      have triv : ∀ {x : Sl}, (∀ ds, x ≠ .bor ds) → (∀ c ds, x ≠ .oin c ds) → unl1 ((δ[j]?).getD .no) x = x := fun {x} nx nx2 => by
        cases q0 : (δ[j]?).getD .no <;> cases x <;> first | rfl | exact (nx _ rfl).elim | exact (nx2 _ _ rfl).elim
      cases s with
      | no => rw [triv (fun _ z => by cases z) (fun _ _ z => by cases z)] at e'; subst e'; trivial
      | pl d => rw [triv (fun _ z => by cases z) (fun _ _ z => by cases z)] at e'; subst e'; exact old
      | own ds =>
        rw [triv (fun _ z => by cases z) (fun _ _ z => by cases z)] at e'; subst e'
        obtain ⟨p, vs, z, hp, r, nF, nM, hb⟩ := old
        exact ⟨p, vs, z, hp, r, nF, nM, h0.st.tr _ hb⟩
      | od ks ds =>
        rw [triv (fun _ z => by cases z) (fun _ _ z => by cases z)] at e'; subst e'
        obtain ⟨p, z, nF, nM, hb, x⟩ := old
        exact ⟨p, z, nF, nM, h0.st.tr _ hb, x⟩
      | oin c ds =>
        have : t = .no := by cases q0 : (δ[j]?).getD .no <;> rw [q0] at e' <;> exact e'.symm
        subst this
        trivial
      | bor ds =>
        cases q0 : δ[j]? with
        | none => rw [q0] at e'; subst e'; trivial
        | some s0 =>
          rw [q0] at e'
          cases s0 with
          | own ds0 =>
            simp only [Option.getD_some, unl1] at e'
            subst e'
            obtain ⟨p, vs0, e1, e2, hp0, nF, nM, hb⟩ := pnOf_own h0 q0
            obtain ⟨z, vs, hp, r, m⟩ := pin (ds0 := ds0) e1 q
            refine ⟨p, vs, by rw [z]; rfl, st.kp _ _ hp m, r, ?_, ?_, hb⟩
            · cases q5 : F' p with
              | none => rfl
              | some o =>
                rcases st.nf p o q5 with z | z | ⟨_, _, z⟩
                · rw [show (lockB F μ H δ σ).F p = F p from rfl, nF] at z; cases z
                · rw [show (lockB F μ H δ σ).H p = H p from rfl, hp0] at z; cases z
                · rw [show (lockB F μ H δ σ).H p = H p from rfl, hp0] at z; cases z
            · exact fun hm => (st.nm p hm).elim nM fun z => by rw [show (lockB F μ H δ σ).H p = H p from rfl, hp0] at z; cases z
          | bor ds0 =>
            simp only [Option.getD_some, unl1] at e'
            subst e'
            obtain ⟨p, vs0, e1, e2, hp0, hb, nM⟩ := pnOf_bor h0 q0
            obtain ⟨z, vs, hp, r, m⟩ := pin (ds0 := ds0) e1 q
            rw [hp0] at hp
            cases hp
            exact ⟨p, vs0, by rw [z]; rfl, hb, r, nM⟩
          | no => simp only [Option.getD_some, unl1] at e'; subst e'; trivial
          | pl d => simp only [Option.getD_some, unl1] at e'; subst e'; trivial
          | od _ _ => simp only [Option.getD_some, unl1] at e'; subst e'; trivial
          | oin _ _ => simp only [Option.getD_some, unl1] at e'; subst e'; trivial
  · rcases ownC e1 o1 z1 with ⟨d1, a1, b1, c1⟩ | ⟨a1, c1⟩
    · rcases ownC e2 o2 z2 with ⟨d2, a2, b2, c2⟩ | ⟨a2, c2⟩
      · exact h0.dj j k _ _ p a1 a2 rfl rfl b1 b2
      · exact (c1 c2).elim
    · rcases ownC e2 o2 z2 with ⟨d2, a2, b2, c2⟩ | ⟨a2, c2⟩
      · exact (c2 c1).elim
      · exact h.dj j k _ _ p a1 a2 o1 o2 z1 z2
  · rw [unlkE_get] at h2
    cases q : δ'[j]? with
    | none => rw [q] at h2; cases h2
    | some s =>
      rw [q] at h2
      have e' : unl1 ((δ[j]?).getD .no) s = .bor ds := by simpa using h2
      cases s <;> (cases q0 : δ[j]? with
        | none => rw [q0] at e'; simp [unl1] at e'
        | some s0 =>
          rw [q0] at e'
          cases s0 <;> simp [unl1] at e'
          try (
            obtain ⟨a, vs0, e1, e2, hp0, hb, nM⟩ := pnOf_bor h0 q0
            obtain ⟨z, _⟩ := pin (ds0 := ds) e1 q
            have := h0.pn j p _ h1 q0
            rw [e2] at this
            cases this
            exact z))
theorem VA.sr (h : StR K B F μ S δ σ H) {q : Addr} {u : HO} (hq : H q = none) {v : V} {s : Sl} (r : VA K σ δ F μ v s) : ∃ d, (s = .pl d ∧ Rp K F μ v d) ∨ ∃ ds p vs, s = .bor ds ∧ v = .ref p ∧ (upd H q u) p = some (.lst vs) ∧ RpA K F μ vs ds ∧ p ∉ μ := by
  cases s with
  | pl d => exact ⟨d, .inl ⟨rfl, r⟩⟩
  | bor ds =>
    obtain ⟨i, e1, e2⟩ := r
    refine ⟨.non, .inr ?_⟩
    rcases e2 with e2 | e2
    · obtain ⟨p, vs, z, hp, rr, nF, nM, _⟩ := h.sl i _ e2
      rw [e1] at z
      cases z
      exact ⟨ds, p, vs, rfl, rfl, by rw [upd_ne (fun z => by subst z; rw [hq] at hp; cases hp)]; exact hp, rr, nM⟩
    · obtain ⟨p, vs, z, hp, rr, m⟩ := h.sl i _ e2
      rw [e1] at z
      cases z
      have hH := h.st.kp _ _ hp m
      exact ⟨ds, p, vs, rfl, rfl, by rw [upd_ne (fun z => by subst z; rw [hq] at hH; cases hH)]; exact hH, rr, fun hm => (h.st.nm p hm).elim m fun q => by rw [hp] at q; cases q⟩
  | no => exact (show False from r).elim
  | own _ => exact (show False from r).elim
  | od _ _ => exact (show False from r).elim
  | oin _ _ => exact (show False from r).elim
theorem forL_of {D : Ends} {i : Nat} {fs : List Fe} {body : Fs} {σ : L2.St} {H : Hp} (w : wS K W (sForL i fs body) D σ H) : tFor (iAny K (tLst (wA K W (fA fs)))) (gName i) (wS K W body) D σ H := by
  obtain ⟨B, F, μ, S, δ, hs, ho⟩ := w
  have ho1 : OS K W B D (if notHeld (δ[i]?) = true then (fA fs δ S).bind fun ss S => if ss.length ≤ cap then (loopL i body ss (lockE δ) S).bind fun r S => (match r with
  | .nx δ' => .ok (.nx (unlkE δ δ')) S
  | .rt v => .ok (.rt v) S
  | _ => .st) else .st else .st) := ho
  by_cases cn : notHeld (δ[i]?) = true
  · rw [if_pos cn] at ho1
    refine ⟨B, F, μ, S, δ, hs, ?_⟩
    cases e : fA fs δ S with
    | st => rw [e] at ho1; exact ho1
    | ex x S1 => rw [e] at ho1; exact fun F' μ' H' d t o r => ho1 F' μ' H' σ d (hs.st.trans t) o r
    | ok ss S1 =>
      rw [e, bind_ok] at ho1
      intro F1 μ1 H1 vs t1 o1 va
      have h1 := hs.go t1 o1
      by_cases cl : ss.length ≤ cap
      · rw [if_pos cl] at ho1
        have lv : vs.length = ss.length := Paired.length va
        refine ⟨by rw [lv]; exact Nat.le_trans cl (by decide), fun q hq => .inl ⟨q, rfl, ⟨vs, SqL.of upd_same⟩, ?_⟩⟩
        have oq := o1.new (u := .lst vs) hq
        have hQ : StR K B F1 μ1 S1 δ σ (upd H1 q (.lst vs)) := h1.go (.new o1 hq) oq
        have hL := hQ.lock
        have pnI : pnOf δ σ i = none := by
          unfold pnOf
          split
          · rename_i q; rw [q] at cn; cases cn
          · rename_i q; rw [q] at cn; cases cn
          · rfl
        have step : ∀ (s : Sl) (v : V) (r : List Sl), VA K σ δ F1 μ1 v s → ∀ {F2 μ2 S2 δ2 σ2 H2}, StR K (lockB F1 μ1 (upd H1 q (.lst vs)) δ σ) F2 μ2 S2 δ2 σ2 H2 → OS K W B D ((loopL i body (s :: r) δ2 S2).bind fun r S => (match r with
            | .nx δ' => .ok (.nx (unlkE δ δ')) S
            | .rt v => .ok (.rt v) S
            | _ => .st)) → ∃ δ3, StR K (lockB F1 μ1 (upd H1 q (.lst vs)) δ σ) F2 μ2 S2 δ3 (σ2.set i (some v)) H2 ∧ OS K W B D ((body δ3 S2).bind fun r1 S => (Rs.bind (match r1 with
              | .nx δ' => loopL i body r δ' S
              | .ct δ' => loopL i body r δ' S
              | .bk δ' => .ok (.nx δ') S
              | .rt v => .ok (.rt v) S) fun r S => (match r with
            | .nx δ' => .ok (.nx (unlkE δ δ')) S
            | .rt v => .ok (.rt v) S
            | _ => .st))) := by
          intro s v r hv F2 μ2 S2 δ2 σ2 H2 h2 o2
          obtain ⟨d, ⟨rfl, rd⟩ | ⟨ds, p, ws, rfl, rfl, hp, rr, m⟩⟩ := VA.sr h1 (u := .lst vs) hq hv
          · simp only [loopL] at o2
            by_cases c : i < δ2.length
            · rw [if_pos c, bind_bind] at o2
              exact ⟨_, h2.putP c (rd.mono h2.st.fr h2.st.mu), o2⟩
            · rw [if_neg c] at o2; exact (show False from o2).elim
          · simp only [loopL] at o2
            by_cases c : i < δ2.length
            · rw [if_pos c, bind_bind] at o2
              exact ⟨_, h2.putB c ⟨p, ws, rfl, hp, rr.mono h2.st.fr h2.st.mu, m⟩ pnI, o2⟩
            · rw [if_neg c] at o2; exact (show False from o2).elim
        refine ⟨fun k m σ2 H2 => m = ss.length - k ∧ k ≤ ss.length ∧ ∃ F2 μ2 S2 δ2, StR K (lockB F1 μ1 (upd H1 q (.lst vs)) δ σ) F2 μ2 S2 δ2 σ2 H2 ∧ OS K W B D ((loopL i body (ss.drop k) δ2 S2).bind fun r S => (match r with
            | .nx δ' => .ok (.nx (unlkE δ δ')) S
            | .rt v => .ok (.rt v) S
            | _ => .st)), ⟨_, rfl, Nat.zero_le _, F1, μ1, S1, lockE δ, hL, by rw [List.drop_zero]; exact ho1⟩, ?_⟩
        rintro k m σ2 H2 ⟨rfl, hk, F2, μ2, S2, δ2, h2, o2⟩
        have nq : q ∉ μ1 := (o1.free hq).2
        have hq2 : H2 q = some (.lst vs) := h2.st.kp q _ upd_same nq
        by_cases hlt : k < ss.length
        · have hd : ss.drop k = ss[k] :: ss.drop (k + 1) := List.drop_eq_getElem_cons hlt
          rw [hd] at o2
          obtain ⟨v, hv, rv⟩ := paired_get va (List.getElem?_eq_getElem hlt)
          refine .inr ⟨⟨vs, v, SqL.of hq2, hv⟩, fun σ' H' => ∃ F3 μ3 S3 δ3, StR K (lockB F1 μ1 (upd H1 q (.lst vs)) δ σ) F3 μ3 S3 δ3 σ' H' ∧ OS K W B D ((loopL i body (ss.drop (k + 1)) δ3 S3).bind fun r S => (match r with
            | .nx δ' => .ok (.nx (unlkE δ δ')) S
            | .rt v => .ok (.rt v) S
            | _ => .st)), fun σ' H' n => ⟨ss.length - (k + 1), by omega, rfl, hlt, n⟩, fun x H' y => ?_⟩
          obtain ⟨rfl, y2⟩ := y
          have := y2 vs (SqL.of hq2)
          rw [hv] at this
          cases this
          obtain ⟨δ3, h3, o3⟩ := step _ _ _ rv h2 o2
          refine ⟨lockB F1 μ1 (upd H1 q (.lst vs)) δ σ, F2, μ2, S2, δ3, h3, ?_⟩
          cases e5 : body δ3 S2 with
          | st => rw [e5] at o3; exact (show False from o3).elim
          | ex x S5 => rw [e5] at o3; exact fun F5 μ5 H5 σ5 d t o r => o3 F5 μ5 H5 σ5 d (hQ.st.trans t) o r
          | ok r S5 =>
            rw [e5, bind_ok] at o3
            cases r with
            | nx δ5 => exact fun F5 μ5 σ5 H5 h5 => ⟨F5, μ5, S5, δ5, h5, o3⟩
            | ct δ5 => exact fun F5 μ5 σ5 H5 h5 => ⟨F5, μ5, S5, δ5, h5, o3⟩
            | bk δ5 => exact fun F5 μ5 σ5 H5 h5 => o3 F5 μ5 σ5 H5 (hQ.unlock h5)
            | rt r =>
              intro F5 μ5 H5 v t o rv
              refine o3 F5 μ5 H5 v (hQ.st.trans t) o ?_
              cases r with
              | pl d => exact rv
              | own ds =>
                obtain ⟨p, ws, e1, a, b, c, d, n⟩ := rv
                exact ⟨p, ws, e1, a, b, c, d, hQ.st.tr _ n⟩
              | od ks ds =>
                obtain ⟨p, e1, a, b, n, x⟩ := rv
                exact ⟨p, e1, a, b, hQ.st.tr _ n, x⟩
              | bor ds => obtain ⟨_, z, _⟩ := rv; simp at z
              | no => exact rv
              | oin _ _ => exact rv
        · have ek : k = ss.length := by omega
          refine .inl ⟨⟨vs, SqL.of hq2, by rw [lv]; omega⟩, ?_⟩
          rw [ek, List.drop_length] at o2
          exact o2 F2 μ2 σ2 H2 (hQ.unlock h2)
      · rw [if_neg cl] at ho1; exact (show False from ho1).elim
  · rw [if_neg cn] at ho1; exact (show False from ho1).elim
end
section
variable {X : Cx} {W : WX} {es : List Expr} {fs : List Fe} {pos p1 p2 : Pos} {body : Fs} {bd : List Stmt} {x : Str} {i : Nat}
theorem ss_forL (hp : PassesOwn (model X.prog X.w) X.A X.env X.xe) (hc : X.calm = true) (ha : SA X W es (fA fs)) (hg : PG X (.Name x p1) (gName i)) (hb : SL X W bd body) (hs : ∀ y, foldedSetIterable (.List es p2) X.env y = pure y := by intro _; rfl) : SS X W (.For (.Name x p1) (.List es p2) bd [] pos) (sForL i fs body) :=
  PS.imp (ps_for hp hc (pi_any (pe_lst ha)) hg hb hs) fun _ _ _ => forL_of
end
end Gt
set_option Elab.async false
set_option linter.all false
set_option maxRecDepth 100000
set_option maxHeartbeats 2000000
namespace Gt
open PySem PySem.Spec PyProof.Rows L2 RZ StX
section
variable {P : Program} {w : World} {A : Around} {E : Value → Shared → Prop} {s : Shared} {a : Addr} {S : Key → Bool} {n : Nat}
theorem setM_typeIs (R : SetM w s.heap a S n) : s.TypeIs (.ref a) "set" := by
  obtain ⟨o, es, ep, t, ho, hex, _⟩ := R
  exact ⟨o, ho, hex.1⟩
theorem setM_add {k : Key} {v : Value} {Q : Value → Shared → Prop} (rv : RelV (kV k) v) (R : SetM w s.heap a S n) (room : n + 1 < scanBound)
    (hQ : ∀ h', Heap.SameBut a s.heap h' → SetM w h' a (fun j => S j || decide (j = k)) (if S k = true then n else n + 1) → Q .none { s with heap := h', toks := s.toks + 1 }) :
    wpAny (model P w) A (call (.builtin "set.add") [.ref a, v]) Q E s := by
  refine wpAny_call_entry F.slot_set_add (setM_typeIs R) F.entry_set_add ?_ (F.args_set_add_2 _ _)
  unfold Builtin.«set.add» Builtin.Frozenset.oneOther
  simp only [List.isEmpty_nil, bind_assoc]
  unfold Builtin.Frozenset.addrOf setAdd
  refine wpAny_bind (wpAny_pure ?_)
  try dsimp only
  refine wpAny_bind (wpAny_pure ?_)
  try dsimp only
  refine wpAny_bind (wpAny_holding (wpAny_bind ((mixKind P w).pyHash (kV_is rv) ?_)))
  refine setM_add_hashed (s := { s with toks := s.toks + 1 }) rv R room fun h' sb r => ?_
  show wpAny _ _ (ret Value.none) _ _ _
  exact wpAny_pure ⟨_, rfl, hQ h' sb r⟩
theorem setM_fresh0 {h : Heap} (w : World) : SetM w (h.push { cls := .type "set", dict := none, data := .set #[] 0 (.fresh 0 0 (!w.params.followText "set-order")) }) h.objs.size (fun _ => false) 0 := setM_fresh w (Heap.get?_push_size _ rfl)
end
section
variable {X : Cx}
theorem addM_ok {pins : List (Addr × Obj)} {σ : L2.St} {H : Hp} {s : Shared} {E : Value → Shared → Prop} {D : Addr} {S : Key → Bool} {n : Nat} {k : Key} {v : Value} {Q : Value → Shared → Prop} (I : Inv X pins σ H s) (hD : H D = some (SetMO X.w D S n)) (rv : RelV (kV k) v) (room : n + 1 < scanBound)
    (h : ∀ s', Inv X pins σ (upd H D (SetMO X.w D (fun j => S j || decide (j = k)) (if S k = true then n else n + 1))) s' → Q .none s') : wpAny (model X.prog X.w) X.A (call (.builtin "set.add") [.ref D, v]) Q E s := by
  have R : SetM X.w s.heap D S n := (I.hok D _ hD).1
  refine setM_add rv R room fun h' sb new => ?_
  have he : ∃ u, h'.get? D = some u := by
    have ⟨o, _, _, _, ho, _⟩ := new
    exact ⟨o, ho⟩
  exact h _ (I.write (e := D) (t' := s.toks + 1) (by rw [hD]; trivial) (.inl rfl) (fun b u hb hu => (sb.2 b hb).trans hu) he (setMO_new new))
def tScM (w : World) (wi : TI) (g : TG) (tt : TT) (te : TE) (vs : List Nat) : TE := fun σ H Q => wi σ H fun J H1 => ∀ D, H1 D = none → ∃ W : Nat → Nat → Hp → Prop, (∃ m, W 0 m (upd H1 D (SetMO w D (fun _ => false) 0))) ∧ ∀ i m H, W i m H →
  (J.stop i H ∧ Q (.ref D) H) ∨ (J.go i H ∧ ∃ Nx : Hp → Prop, (∀ H', Nx H' → ∃ m', m' < m ∧ W (i + 1) m' H') ∧ ∀ x H', J.yld i H x H' → g x (wipe σ vs) H' fun σ2 H2 => wipe σ2 vs = wipe σ vs ∧ tt σ2 H2 fun b H3 =>
    if b = true then te σ2 H3 fun y H4 => ∃ (c : Key) (S : Key → Bool) (n : Nat), y = kV c ∧ H4 D = some (SetMO w D S n) ∧ n + 1 < scanBound ∧ Nx (upd H4 D (SetMO w D (fun j => S j || decide (j = c)) (if S c = true then n else n + 1))) else Nx H3)
theorem scM_core {pins : List (Addr × Obj)} {s : Shared} {σ : L2.St} {H : Hp} {Q : VK} {elt tg iter : Expr} {ifs : List Expr} {scope : Scope} {own : List (Str × Nat)} {pos pos' : Pos} {wi : TI} {g : TG} {tt : TT} {te : TE} {use : Option (Value → Sem Unit)} {Qf : Value → Shared → Prop}
    (hc : X.calm = true) (hN : X.N.Nodup) (I : Inv X pins σ H s) (hi : PI X tg iter wi) (ok : BlkOk X.N X.env.scope scope own)
    (hg : ∀ (s : Shared) (H : Hp) (C : Addr) (cl : List (Str × Addr)) (fp : List Addr), PG (X.blk s H scope (compEnvC scope cl C X.env) fp) tg g) (ht : ∀ (s : Shared) (H : Hp) (C : Addr) (cl : List (Str × Addr)) (fp : List Addr), PTs (X.blk s H scope (compEnvC scope cl C X.env) fp) ifs tt)
    (he : ∀ (s : Shared) (H : Hp) (C : Addr) (cl : List (Str × Addr)) (fp : List Addr), PE (X.blk s H scope (compEnvC scope cl C X.env) fp) elt te) (hs : ∀ x, foldedSetIterable iter X.env x = pure x)
    (h : tScM X.w wi g tt te (own.map (·.2)) σ H Q)
    (hRR : ∀ D C s' m H', Inv X pins σ H' s' → Q (.ref D) H' → s'.heap.Ns C m → FpOk X pins H' C → compPost (model X.prog X.w) X.A X.xe use Qf (.ref D) C (.ok .next) s') :
    wpAny (model X.prog X.w) X.A (comprehension (.SetComp elt [⟨tg, iter, ifs, 0⟩] scope pos) scope X.env pos' (newSet (.type "set")) false (eval iter X.env) use) Qf X.xe s := by
  have hfree : ∀ y ∈ scope.names, y.2 = .free → ∃ c, X.env.cells.lookup y.1 = some c := fun y hy e => by
    rcases ok.free y hy e with k | k
    · exact I.ok.has _ (.inl k)
    · exact I.ok.has _ (.inr k)
  refine wpAny_comprehension_free (use := use) rfl hs (closure_ok hfree) ok.kind (fun y hy e => by rw [ok.uniq y hy, e])
    (thn (hi.run pins s σ H _ I h) fun xv s1 hx => thn hx fun itv s2 h2 => ?_)
  obtain ⟨it, fp, tn, J, H2, e, I2, T, st2, f2, q⟩ := h2
  subst e
  refine PpSet.newSet_ok (newEnv_comp ?_)
  generalize hD : s2.heap.objs.size = D
  have hDn : H2 D = none := I2.hok.fresh (Nat.le_of_eq hD)
  obtain ⟨W, ⟨m0, w0⟩, turn⟩ := q D hDn
  generalize hs3 : ({ s2 with heap := s2.heap.push { cls := .type "set", dict := none, data := .set #[] 0 (.fresh 0 0 (!X.w.params.followText "set-order")) } } : Shared) = s3
  have I3 : Inv X pins σ (upd H2 D (SetMO X.w D (fun _ => false) 0)) s3 := by
    rw [← hs3]
    refine I2.laid (t' := s2.toks) (fun b o e => Heap.get?_push_of_some _ e) (Nat.le_of_eq hD) ?_
    rw [← hD]
    exact setMO_new (setM_fresh0 X.w)
  have h3 : s3.heap = s2.heap.push { cls := .type "set", dict := none, data := .set #[] 0 (.fresh 0 0 (!X.w.params.followText "set-order")) } := by rw [← hs3]
  have sz : ∀ b ∈ fp, b < s2.heap.objs.size := fun b hb => by
    obtain ⟨o, e, _⟩ := T.obj _ _ st2 b hb
    exact Heap.lt_size e
  have f3 : ∀ b ∈ fp, FpOk X pins (upd H2 D (SetMO X.w D (fun _ => false) 0)) b ∧ b < s3.heap.objs.size := fun b hb => by
    have hlt := sz b hb
    refine ⟨⟨?_, (f2 b hb).2⟩, by rw [h3, Heap.size_push]; exact Nat.lt_succ_of_lt hlt⟩
    rw [upd_ne (by rw [← hD]; exact Nat.ne_of_lt hlt)]
    exact (f2 b hb).1
  have st3 : tn 0 s3.heap := T.keep _ _ _ st2 fun b _ o e => by rw [h3]; exact Heap.get?_push_of_some _ e
  have I4 := block_start I3 ok hN f3
  have pg := hg s3 (upd H2 D (SetMO X.w D (fun _ => false) 0)) s3.heap.objs.size (cellsFrom (s3.heap.objs.size + 1) scope.names (cloFrom X.env.cells scope.names [])) fp
  have pt := ht s3 (upd H2 D (SetMO X.w D (fun _ => false) 0)) s3.heap.objs.size (cellsFrom (s3.heap.objs.size + 1) scope.names (cloFrom X.env.cells scope.names [])) fp
  have pe := he s3 (upd H2 D (SetMO X.w D (fun _ => false) 0)) s3.heap.objs.size (cellsFrom (s3.heap.objs.size + 1) scope.names (cloFrom X.env.cells scope.names [])) fp
  show codeAny _ _ (.compStart (.SetComp elt [⟨tg, iter, ifs, 0⟩] scope pos) 0 (.ref it) (.ref D) (compEnvC scope (cellsFrom (s3.heap.objs.size + 1) scope.names (cloFrom X.env.cells scope.names [])) s3.heap.objs.size X.env)) (compPost (model X.prog X.w) X.A X.xe use Qf (.ref D) s3.heap.objs.size) { s3 with heap := pushCells (s3.heap.push { cls := .type "dict", data := .dict #[] }) scope.names }
  have nfp : ∀ b ∈ fp, (upd H2 D (SetMO X.w D (fun _ => false) 0)) b = none := fun b hb => (f3 b hb).1.1
  generalize hce : compEnvC scope (cellsFrom (s3.heap.objs.size + 1) scope.names (cloFrom X.env.cells scope.names [])) s3.heap.objs.size X.env = ce at I4 pg pt pe ⊢
  have cL : ce.locals = s3.heap.objs.size := by subst hce; rfl
  generalize hH3 : upd H2 D (SetMO X.w D (fun _ => false) 0) = H3 at I3 I4 pg pt pe w0 nfp f3
  generalize hs4 : ({ s3 with heap := pushCells (s3.heap.push { cls := .type "dict", data := .dict #[] }) scope.names } : Shared) = s4 at I4 ⊢
  have st4 : tn 0 s4.heap := T.keep _ _ _ st3 fun b _ o e => by rw [← hs4]; exact pushCells_keeps _ _ _ _ (Heap.get?_push_of_some _ e)
  have stat : ∀ {σ' : L2.St} {H' : Hp} {s' : Shared}, Inv (X.blk s3 H3 scope ce fp) [] σ' H' s' → (∀ b ∈ fp, H' b = none) → ∀ b ∈ fp, FpOk (X.blk s3 H3 scope ce fp) [] H' b := fun {σ' H' s'} I' hn b hb =>
    ⟨hn b hb, (I'.ok.exf b hb).1, I'.ok.exfs b hb, .inl hb, fun x c e => (I'.ok.exf b hb).2 x c e, fun p hp => absurd (show p ∈ ([] : List (Addr × Obj)) ++ [] from hp) (by simp)⟩
  have loop : codeAny (model X.prog X.w) X.A (.compLoop (.SetComp elt [⟨tg, iter, ifs, 0⟩] scope pos) 0 (.ref it) (.ref D) ce) (compPost (model X.prog X.w) X.A X.xe use Qf (.ref D) s3.heap.objs.size) s4 := by
    refine PpSet.compLoopS_any (fun n s' => ∃ i H', Inv (X.blk s3 H3 scope ce fp) [] (wipe σ (own.map (·.2))) H' s' ∧ tn i s'.heap ∧ (∀ b ∈ fp, H' b = none) ∧ W i n H') ?_ m0 ⟨0, H3, I4, st4, nfp, w0⟩
    rintro n s5 ⟨i, H5, I5, st5, n5, w5⟩
    rcases turn i n H5 w5 with ⟨stop, qq⟩ | ⟨go, Nx, hNx, step⟩
    · have td := T.done (X.blk s3 H3 scope ce fp) rfl rfl rfl hc i [] s5 _ H5 (fun _ _ => False) I5 (stat I5 n5) st5 stop
      refine thnF td fun r s6 ⟨hr, I6⟩ => ?_
      subst hr
      have I7 : Inv X pins σ H5 s6 := I3.call' (ch := fp) I6.os I6.base I6.hok I6.bare fun b hb => ⟨(f3 b hb).1.2.2.2.1, (f3 b hb).1.2.1, (f3 b hb).1.2.2.2.2.1, (f3 b hb).1.2.2.2.2.2⟩
      have nC : H5 s3.heap.objs.size = none := by
        have z : H5 ce.locals = none := I6.free
        rw [cL] at z
        exact z
      obtain ⟨m, hn, _⟩ := I6.loc
      have hn : s6.heap.Ns ce.locals m := hn
      rw [cL] at hn
      exact hRR D s3.heap.objs.size s6 m H5 I7 qq hn (I3.fpOk (Nat.le_refl _) nC)
    · have ti := T.item (X.blk s3 H3 scope ce fp) rfl rfl rfl hc i [] s5 _ H5 (fun _ _ => False) I5 (stat I5 n5) st5 go
      refine thnF ti fun r s6 ⟨u, hr, h6⟩ => ?_
      subst hr
      refine thnF h6 fun _ s7 ⟨x, H7, I7, r7, y7, st7, n7⟩ => ?_
      have I7' := I7.pinned (stat I7 n7) (T.obj _ _ st7)
      refine thnF (pg.run _ s7 _ H7 x u _ I7' r7 (step x H7 y7)) fun _ s8 ⟨σ8, H8, I8, hw8, q8⟩ => ?_
      refine thnF (pt.run _ s8 σ8 H8 _ I8 q8) fun b s9 ⟨H9, I9, q9⟩ => ?_
      have fin : ∀ {s' : Shared} {H' : Hp}, Inv (X.blk s3 H3 scope ce fp) ([] ++ pinsAt fp s7.heap) σ8 H' s' → Nx H' → ∃ m, m < n ∧ ∃ i H', Inv (X.blk s3 H3 scope ce fp) [] (wipe σ (own.map (·.2))) H' s' ∧ tn i s'.heap ∧ (∀ b ∈ fp, H' b = none) ∧ W i m H' := fun {s' H'} I' nx => by
        obtain ⟨m', hm, w'⟩ := hNx H' nx
        have pin' : ∀ b ∈ fp, ∀ o, s7.heap.get? b = some o → s'.heap.get? b = some o ∧ H' b = none := fun b hb o e =>
          let z := I'.pin (b, o) (List.mem_append_right _ (List.mem_append_right _ (mem_pinsAt hb e)))
          ⟨z.1, z.2.1⟩
        have hl : (wipe σ (own.map (·.2))).length = σ8.length := by rw [← hw8, wipe_length]
        refine ⟨m', hm, i + 1, H', (I'.unpinned (pins := [])).weak hl (fun j v e => ?_), T.keep _ _ _ st7 fun b hb o e => (pin' b hb o e).1, fun b hb => ?_, w'⟩
        · rw [← hw8] at e
          exact (wipe_some e).1
        · obtain ⟨o, e, _⟩ := T.obj _ _ st7 b hb
          exact (pin' b hb o e).2
      cases b with
      | false =>
        simp only [Bool.false_eq_true, if_false] at q9 ⊢
        exact fin I9 q9
      | true =>
        simp only [if_true] at q9 ⊢
        refine thnF (pe.run _ s9 σ8 H9 _ I9 q9) fun z s10 ⟨yv, H10, I10, r10, cb, S0, n0, ey, hD10, hz10, nx⟩ => ?_
        subst ey
        exact addM_ok (X := X.blk s3 H3 scope ce fp) I10 hD10 r10 hz10 fun s11 I11 => fin I11 nx
  exact PpSet.codeAny_compStart_set loop (T.self X.A 0 _ _ _ st4 loop)
theorem pe_scM {elt tg iter : Expr} {ifs : List Expr} {scope : Scope} {own : List (Str × Nat)} {pos : Pos} {wi : TI} {g : TG} {tt : TT} {te : TE} (hc : X.calm = true) (hN : X.N.Nodup) (hi : PI X tg iter wi) (ok : BlkOk X.N X.env.scope scope own)
    (hg : ∀ (s : Shared) (H : Hp) (C : Addr) (cl : List (Str × Addr)) (fp : List Addr), PG (X.blk s H scope (compEnvC scope cl C X.env) fp) tg g) (ht : ∀ (s : Shared) (H : Hp) (C : Addr) (cl : List (Str × Addr)) (fp : List Addr), PTs (X.blk s H scope (compEnvC scope cl C X.env) fp) ifs tt)
    (he : ∀ (s : Shared) (H : Hp) (C : Addr) (cl : List (Str × Addr)) (fp : List Addr), PE (X.blk s H scope (compEnvC scope cl C X.env) fp) elt te) (hs : ∀ x, foldedSetIterable iter X.env x = pure x := by intro _; rfl) :
    PE X (.SetComp elt [⟨tg, iter, ifs, 0⟩] scope pos) (tScM X.w wi g tt te (own.map (·.2))) := by
  refine ⟨fun pins s σ H Q I h => ?_⟩
  rw [PpSet.eval_SetComp]
  refine scM_core hc hN I hi ok hg ht he hs h fun D C s' m H' I' q hn f => ⟨m, hn, fun h'' sb => ?_⟩
  obtain ⟨f0, f1, f2, f3, f4, f5⟩ := f
  exact ⟨.ref D, H', I'.turned (t' := s'.toks) (fun b o hb e => (sb.2 b hb).trans e) f0 f1 f3 f4 f5, rfl, q⟩
end
theorem compSTurn2_out (elt t0 i0 t1 i1 : Expr) (ifs0 ifs1 : List Expr) (scope : Scope) (pos : Pos) (it acc : Value) (env : Env) :
    compTurn (.SetComp elt [⟨t0, i0, ifs0, 0⟩, ⟨t1, i1, ifs1, 0⟩] scope pos) 0 it acc env = (do
      standAt i0.pos
      match ← pyNext it with
      | none => pure (.done .next)
      | some v =>
        letOwnedTupleGo t0 it v
        assign t0 env v
        let mut ok := true
        for c in ifs0 do
          if ok then ok ← isTrue c env (eval c env)
        if ok then
          let x ← eval i1 env
          standAt i1.pos
          let x ← foldedSetIterable i1 env x
          let _ ← runOwn (.compStart (.SetComp elt [⟨t0, i0, ifs0, 0⟩, ⟨t1, i1, ifs1, 0⟩] scope pos) 1 (← holding [x] (pyIter x)) acc env) env
        again (.compLoop (.SetComp elt [⟨t0, i0, ifs0, 0⟩, ⟨t1, i1, ifs1, 0⟩] scope pos) 0 it acc env)) := by rfl
theorem compSTurn2_in (elt t0 i0 t1 i1 : Expr) (ifs0 ifs1 : List Expr) (scope : Scope) (pos : Pos) (it acc : Value) (env : Env) :
    compTurn (.SetComp elt [⟨t0, i0, ifs0, 0⟩, ⟨t1, i1, ifs1, 0⟩] scope pos) 1 it acc env = (do
      standAt i1.pos
      match ← pyNext it with
      | none => pure (.done .next)
      | some v =>
        letOwnedTupleGo t1 it v
        assign t1 env v
        let mut ok := true
        for c in ifs1 do
          if ok then ok ← isTrue c env (eval c env)
        if ok then
          (do let v ← eval elt env; standAt elt.pos; let _ ← call (.builtin "set.add") [acc, v])
        again (.compLoop (.SetComp elt [⟨t0, i0, ifs0, 0⟩, ⟨t1, i1, ifs1, 0⟩] scope pos) 1 it acc env)) := by rfl
section
variable {prog : Program} {w : World} {A : Around} {R : Result → Shared → Prop} {s : Shared} {elt t0 i0 t1 i1 : Expr} {ifs0 ifs1 : List Expr} {scope : Scope} {pos : Pos} {it acc : Value} {env : Env}
theorem compSLoop2_out (hs : ∀ x, foldedSetIterable i1 env x = pure x) (I : Nat → Shared → Prop)
    (turn : ∀ n s, I n s → wpAny (model prog w) A (pyNext it) (fun r s₁ => match r with
      | none => R (.ok .next) s₁
      | some v => wpAny (model prog w) A (letOwnedTupleGo t0 it v) (fun _ s₁' => wpAny (model prog w) A (assign t0 env v) (fun _ s₂ =>
          wpAny (model prog w) A (forIn ifs0 true fun c r => if r = true then do let ok ← isTrue c env (eval c env); pure (ForInStep.yield ok) else pure (ForInStep.yield r)) (fun ok s₃ =>
            if ok = true then wpAny (model prog w) A (eval i1 env) (fun x s₄ => wpAny (model prog w) A (pyIter x) (fun it1 s₅ =>
              codeAny (model prog w) A (.compStart (.SetComp elt [⟨t0, i0, ifs0, 0⟩, ⟨t1, i1, ifs1, 0⟩] scope pos) 1 it1 acc env) (fun r s' => match r with
                | .ok _ => ∃ m, m < n ∧ I m s'
                | .error _ => False) s₅) (notedBy (model prog w) A env fun e s' => R (.error e) s') s₄) (notedBy (model prog w) A env fun e s' => R (.error e) s') s₃
            else ∃ m, m < n ∧ I m s₃) (notedBy (model prog w) A env fun e s' => R (.error e) s') s₂) (notedBy (model prog w) A env fun e s' => R (.error e) s') s₁') (notedBy (model prog w) A env fun e s' => R (.error e) s') s₁) (notedBy (model prog w) A env fun e s' => R (.error e) s') s)
    (n : Nat) (h : I n s) :
    codeAny (model prog w) A (.compLoop (.SetComp elt [⟨t0, i0, ifs0, 0⟩, ⟨t1, i1, ifs1, 0⟩] scope pos) 0 it acc env) R s := by
  refine codeAny_loop rfl I (fun n s hI => ?_) n h
  show wpAny _ A ((compTurn (.SetComp elt [⟨t0, i0, ifs0, 0⟩, ⟨t1, i1, ifs1, 0⟩] scope pos) 0 it acc env).onRaise (fun x => do noteFrame x env; theTreesLotGoes x)) _ _ s
  refine wpAny_noted ?_
  rw [compSTurn2_out]
  refine wpAny_bind (wpAny_standAt (wpAny_bind (wpAny_mono (turn n s hI) (fun r s₁ h₁ => ?_) fun _ _ h' => h')))
  cases r with
  | none => exact wpAny_pure h₁
  | some v =>
    refine wpAny_bind (wpAny_mono h₁ (fun _ s₁' h₁' => ?_) fun _ _ h' => h')
    refine wpAny_bind (wpAny_mono h₁' (fun _ s₂ h₂ => wpAny_bind (wpAny_mono h₂ (fun ok s₃ h₃ => ?_) fun _ _ h' => h')) fun _ _ h' => h')
    cases ok with
    | false => exact wpAny_pure ⟨rfl, h₃⟩
    | true =>
      refine wpAny_bind (wpAny_mono h₃ (fun x s₄ h₄ => ?_) fun _ _ h' => h')
      refine wpAny_bind (wpAny_standAt (wpAny_bind (wpAny_of_eq (hs x) (wpAny_bind (wpAny_holding (wpAny_mono h₄ (fun it1 s₅ h₅ => ?_) fun _ _ h' => h'))))))
      refine wpAny_bind (wpAny_runOwn ?_)
      rw [Around.mark_none]
      refine codeAny_mono h₅ fun r s' hr => ?_
      cases r with
      | ok f =>
        first
          | exact wpAny_pure ⟨rfl, hr⟩
          | exact wpAny_bind (wpAny_pure (wpAny_pure ⟨rfl, hr⟩))
      | error e => exact hr.elim
theorem compSLoop2_in (I : Nat → Shared → Prop)
    (turn : ∀ n s, I n s → wpAny (model prog w) A (pyNext it) (fun r s₁ => match r with
      | none => R (.ok .next) s₁
      | some v => wpAny (model prog w) A (letOwnedTupleGo t1 it v) (fun _ s₁' => wpAny (model prog w) A (assign t1 env v) (fun _ s₂ =>
          wpAny (model prog w) A (forIn ifs1 true fun c r => if r = true then do let ok ← isTrue c env (eval c env); pure (ForInStep.yield ok) else pure (ForInStep.yield r)) (fun ok s₃ =>
            if ok = true then wpAny (model prog w) A (eval elt env) (fun x s₄ =>
              wpAny (model prog w) A (call (.builtin "set.add") [acc, x]) (fun _ s₅ => ∃ m, m < n ∧ I m s₅) (notedBy (model prog w) A env fun e s' => R (.error e) s') s₄) (notedBy (model prog w) A env fun e s' => R (.error e) s') s₃
            else ∃ m, m < n ∧ I m s₃) (notedBy (model prog w) A env fun e s' => R (.error e) s') s₂) (notedBy (model prog w) A env fun e s' => R (.error e) s') s₁') (notedBy (model prog w) A env fun e s' => R (.error e) s') s₁) (notedBy (model prog w) A env fun e s' => R (.error e) s') s)
    (n : Nat) (h : I n s) :
    codeAny (model prog w) A (.compLoop (.SetComp elt [⟨t0, i0, ifs0, 0⟩, ⟨t1, i1, ifs1, 0⟩] scope pos) 1 it acc env) R s := by
  refine codeAny_loop rfl I (fun n s hI => ?_) n h
  show wpAny _ A ((compTurn (.SetComp elt [⟨t0, i0, ifs0, 0⟩, ⟨t1, i1, ifs1, 0⟩] scope pos) 1 it acc env).onRaise (fun x => do noteFrame x env; theTreesLotGoes x)) _ _ s
  refine wpAny_noted ?_
  rw [compSTurn2_in]
  refine wpAny_bind (wpAny_standAt (wpAny_bind (wpAny_mono (turn n s hI) (fun r s₁ h₁ => ?_) fun _ _ h' => h')))
  cases r with
  | none => exact wpAny_pure h₁
  | some v =>
    refine wpAny_bind (wpAny_mono h₁ (fun _ s₁' h₁' => ?_) fun _ _ h' => h')
    refine wpAny_bind (wpAny_mono h₁' (fun _ s₂ h₂ => wpAny_bind (wpAny_mono h₂ (fun ok s₃ h₃ => ?_) fun _ _ h' => h')) fun _ _ h' => h')
    cases ok with
    | false => exact wpAny_pure ⟨rfl, h₃⟩
    | true =>
      exact wpAny_bind (wpAny_bind (wpAny_mono h₃ (fun x s₄ h₄ => wpAny_bind (wpAny_standAt (wpAny_bind (wpAny_mono h₄ (fun _ s₅ h₅ => wpAny_pure (wpAny_pure ⟨rfl, h₅⟩)) fun _ _ h' => h')))) fun _ _ h' => h'))
theorem compSStart1_ok (h0 : codeAny (model prog w) A (.compLoop (.SetComp elt [⟨t0, i0, ifs0, 0⟩, ⟨t1, i1, ifs1, 0⟩] scope pos) 1 it acc env) R s)
    (h : wpAny (model prog w) A (pyIter it) (fun it' s' => codeAny (model prog w) A (.compLoop (.SetComp elt [⟨t0, i0, ifs0, 0⟩, ⟨t1, i1, ifs1, 0⟩] scope pos) 1 it' acc env) R s')
      (notedBy (model prog w) A env fun x s' => R (.error x) s') s) :
    codeAny (model prog w) A (.compStart (.SetComp elt [⟨t0, i0, ifs0, 0⟩, ⟨t1, i1, ifs1, 0⟩] scope pos) 1 it acc env) R s := by
  refine codeAny_of_tree ?_
  show wpAny _ _ ((compStart (.SetComp elt [⟨t0, i0, ifs0, 0⟩, ⟨t1, i1, ifs1, 0⟩] scope pos) 1 it acc env).onRaise (fun x => do noteFrame x env; standAt theWindowsPlace)) _ _ s
  refine wpAny_notedAt ?_
  unfold compStart
  show wpAny _ _ (ask >>= _) _ _ s
  refine wpAny_bind (wpAny_askSetting (wpAny_ite ?_))
  split
  · first
      | exact wpAny_bind (wpAny_pure (wpAny_pure (And.intro rfl h0)))
      | exact wpAny_pure (And.intro rfl h0)
  · first
      | exact wpAny_bind (wpAny_rule (wpAny_bind (wpAny_standAt (wpAny_bind (wpAny_mono h (fun it' s' h' => wpAny_pure (And.intro rfl h')) fun _ _ x => x)))))
      | (refine wpAny_bind (wpAny_rule ?_); show wpAny _ _ (standAt i1.pos >>= _) _ _ s; exact wpAny_bind (wpAny_standAt (wpAny_bind (wpAny_mono h (fun it' s' h' => wpAny_pure (And.intro rfl h')) fun _ _ x => x))))
end
def tScM2 (w : World) (wi : TI) (g : TG) (tt : TT) (wi1 : TI) (g1 : TG) (tt1 : TT) (te : TE) (vs vs1 : List Nat) : TE := fun σ H Q => wi σ H fun J H1 => ∀ D, H1 D = none → ∃ W : Nat → Nat → Hp → Prop, (∃ m, W 0 m (upd H1 D (SetMO w D (fun _ => false) 0))) ∧ ∀ i m H, W i m H →
  (J.stop i H ∧ Q (.ref D) H) ∨ (J.go i H ∧ ∃ Nx : Hp → Prop, (∀ H', Nx H' → ∃ m', m' < m ∧ W (i + 1) m' H') ∧ ∀ x H', J.yld i H x H' → g x (wipe σ vs) H' fun σ2 H2 => wipe σ2 vs = wipe σ vs ∧ tt σ2 H2 fun b H3 =>
    if b = true then wi1 σ2 H3 fun J1 H4 => ∃ W1 : Nat → Nat → Hp → Prop, (∃ m, W1 0 m H4) ∧ ∀ j k H, W1 j k H →
      (J1.stop j H ∧ Nx H) ∨ (J1.go j H ∧ ∃ Nx1 : Hp → Prop, (∀ H', Nx1 H' → ∃ k', k' < k ∧ W1 (j + 1) k' H') ∧ ∀ x H', J1.yld j H x H' → g1 x (wipe σ2 vs1) H' fun σ3 H5 => wipe σ3 vs1 = wipe σ2 vs1 ∧ tt1 σ3 H5 fun b H6 =>
        if b = true then te σ3 H6 fun y H7 => ∃ (c : Key) (S : Key → Bool) (n : Nat), y = kV c ∧ H7 D = some (SetMO w D S n) ∧ n + 1 < scanBound ∧ Nx1 (upd H7 D (SetMO w D (fun j => S j || decide (j = c)) (if S c = true then n else n + 1))) else Nx1 H6)
    else Nx H3)
theorem scM2_core {pins : List (Addr × Obj)} {s : Shared} {σ : L2.St} {H : Hp} {Q : VK} {elt tg iter tg1 iter1 : Expr} {ifs ifs1 : List Expr} {scope : Scope} {own : List (Str × Nat)} {vs1 : List Nat} {pos pos' : Pos} {wi wi1 : TI} {g g1 : TG} {tt tt1 : TT} {te : TE} {use : Option (Value → Sem Unit)} {Qf : Value → Shared → Prop}
    (hc : X.calm = true) (hN : X.N.Nodup) (I : Inv X pins σ H s) (hi : PI X tg iter wi) (ok : BlkOk X.N X.env.scope scope own) (hv : ∀ i ∈ vs1, i ∈ own.map (·.2))
    (hg : ∀ (s : Shared) (H : Hp) (C : Addr) (cl : List (Str × Addr)) (fp : List Addr), PG (X.blk s H scope (compEnvC scope cl C X.env) fp) tg g) (ht : ∀ (s : Shared) (H : Hp) (C : Addr) (cl : List (Str × Addr)) (fp : List Addr), PTs (X.blk s H scope (compEnvC scope cl C X.env) fp) ifs tt)
    (he : ∀ (s : Shared) (H : Hp) (C : Addr) (cl : List (Str × Addr)) (fp : List Addr), PE (X.blk s H scope (compEnvC scope cl C X.env) fp) elt te) (hs : ∀ x, foldedSetIterable iter X.env x = pure x)
    (hi1 : ∀ (s : Shared) (H : Hp) (C : Addr) (cl : List (Str × Addr)) (fp : List Addr), PI (X.blk s H scope (compEnvC scope cl C X.env) fp) tg1 iter1 wi1)
    (hg1 : ∀ (s : Shared) (H : Hp) (C : Addr) (cl : List (Str × Addr)) (fp : List Addr), PG (X.blk s H scope (compEnvC scope cl C X.env) fp) tg1 g1)
    (ht1 : ∀ (s : Shared) (H : Hp) (C : Addr) (cl : List (Str × Addr)) (fp : List Addr), PTs (X.blk s H scope (compEnvC scope cl C X.env) fp) ifs1 tt1)
    (hs1 : ∀ env x, foldedSetIterable iter1 env x = pure x)
    (h : tScM2 X.w wi g tt wi1 g1 tt1 te (own.map (·.2)) vs1 σ H Q)
    (hRR : ∀ D C s' m H', Inv X pins σ H' s' → Q (.ref D) H' → s'.heap.Ns C m → FpOk X pins H' C → compPost (model X.prog X.w) X.A X.xe use Qf (.ref D) C (.ok .next) s') :
    wpAny (model X.prog X.w) X.A (comprehension (.SetComp elt [⟨tg, iter, ifs, 0⟩, ⟨tg1, iter1, ifs1, 0⟩] scope pos) scope X.env pos' (newSet (.type "set")) false (eval iter X.env) use) Qf X.xe s := by
  have hfree : ∀ y ∈ scope.names, y.2 = .free → ∃ c, X.env.cells.lookup y.1 = some c := fun y hy e => by
    rcases ok.free y hy e with k | k
    · exact I.ok.has _ (.inl k)
    · exact I.ok.has _ (.inr k)
  refine wpAny_comprehension_free (use := use) rfl hs (closure_ok hfree) ok.kind (fun y hy e => by rw [ok.uniq y hy, e])
    (thn (hi.run pins s σ H _ I h) fun xv s1 hx => thn hx fun itv s2 h2 => ?_)
  obtain ⟨it, fp, tn, J, H2, e, I2, T, st2, f2, q⟩ := h2
  subst e
  refine PpSet.newSet_ok (newEnv_comp ?_)
  generalize hD : s2.heap.objs.size = D
  have hDn : H2 D = none := I2.hok.fresh (Nat.le_of_eq hD)
  obtain ⟨W, ⟨m0, w0⟩, turn⟩ := q D hDn
  generalize hs3 : ({ s2 with heap := s2.heap.push { cls := .type "set", dict := none, data := .set #[] 0 (.fresh 0 0 (!X.w.params.followText "set-order")) } } : Shared) = s3
  have I3 : Inv X pins σ (upd H2 D (SetMO X.w D (fun _ => false) 0)) s3 := by
    rw [← hs3]
    refine I2.laid (t' := s2.toks) (fun b o e => Heap.get?_push_of_some _ e) (Nat.le_of_eq hD) ?_
    rw [← hD]
    exact setMO_new (setM_fresh0 X.w)
  have h3 : s3.heap = s2.heap.push { cls := .type "set", dict := none, data := .set #[] 0 (.fresh 0 0 (!X.w.params.followText "set-order")) } := by rw [← hs3]
  have sz : ∀ b ∈ fp, b < s2.heap.objs.size := fun b hb => by
    obtain ⟨o, e, _⟩ := T.obj _ _ st2 b hb
    exact Heap.lt_size e
  have f3 : ∀ b ∈ fp, FpOk X pins (upd H2 D (SetMO X.w D (fun _ => false) 0)) b ∧ b < s3.heap.objs.size := fun b hb => by
    have hlt := sz b hb
    refine ⟨⟨?_, (f2 b hb).2⟩, by rw [h3, Heap.size_push]; exact Nat.lt_succ_of_lt hlt⟩
    rw [upd_ne (by rw [← hD]; exact Nat.ne_of_lt hlt)]
    exact (f2 b hb).1
  have st3 : tn 0 s3.heap := T.keep _ _ _ st2 fun b _ o e => by rw [h3]; exact Heap.get?_push_of_some _ e
  have I4 := block_start I3 ok hN f3
  have pg := hg s3 (upd H2 D (SetMO X.w D (fun _ => false) 0)) s3.heap.objs.size (cellsFrom (s3.heap.objs.size + 1) scope.names (cloFrom X.env.cells scope.names [])) fp
  have pt := ht s3 (upd H2 D (SetMO X.w D (fun _ => false) 0)) s3.heap.objs.size (cellsFrom (s3.heap.objs.size + 1) scope.names (cloFrom X.env.cells scope.names [])) fp
  have pe := he s3 (upd H2 D (SetMO X.w D (fun _ => false) 0)) s3.heap.objs.size (cellsFrom (s3.heap.objs.size + 1) scope.names (cloFrom X.env.cells scope.names [])) fp
  have pi1 := hi1 s3 (upd H2 D (SetMO X.w D (fun _ => false) 0)) s3.heap.objs.size (cellsFrom (s3.heap.objs.size + 1) scope.names (cloFrom X.env.cells scope.names [])) fp
  have pg1 := hg1 s3 (upd H2 D (SetMO X.w D (fun _ => false) 0)) s3.heap.objs.size (cellsFrom (s3.heap.objs.size + 1) scope.names (cloFrom X.env.cells scope.names [])) fp
  have pt1 := ht1 s3 (upd H2 D (SetMO X.w D (fun _ => false) 0)) s3.heap.objs.size (cellsFrom (s3.heap.objs.size + 1) scope.names (cloFrom X.env.cells scope.names [])) fp
  show codeAny _ _ (.compStart (.SetComp elt [⟨tg, iter, ifs, 0⟩, ⟨tg1, iter1, ifs1, 0⟩] scope pos) 0 (.ref it) (.ref D) (compEnvC scope (cellsFrom (s3.heap.objs.size + 1) scope.names (cloFrom X.env.cells scope.names [])) s3.heap.objs.size X.env)) (compPost (model X.prog X.w) X.A X.xe use Qf (.ref D) s3.heap.objs.size) { s3 with heap := pushCells (s3.heap.push { cls := .type "dict", data := .dict #[] }) scope.names }
  have nfp : ∀ b ∈ fp, (upd H2 D (SetMO X.w D (fun _ => false) 0)) b = none := fun b hb => (f3 b hb).1.1
  generalize hce : compEnvC scope (cellsFrom (s3.heap.objs.size + 1) scope.names (cloFrom X.env.cells scope.names [])) s3.heap.objs.size X.env = ce at I4 pg pt pe pi1 pg1 pt1 ⊢
  have cL : ce.locals = s3.heap.objs.size := by subst hce; rfl
  generalize hH3 : upd H2 D (SetMO X.w D (fun _ => false) 0) = H3 at I3 I4 pg pt pe pi1 pg1 pt1 w0 nfp f3
  generalize hs4 : ({ s3 with heap := pushCells (s3.heap.push { cls := .type "dict", data := .dict #[] }) scope.names } : Shared) = s4 at I4 ⊢
  have st4 : tn 0 s4.heap := T.keep _ _ _ st3 fun b _ o e => by rw [← hs4]; exact pushCells_keeps _ _ _ _ (Heap.get?_push_of_some _ e)
  have stat : ∀ {σ' : L2.St} {H' : Hp} {s' : Shared}, Inv (X.blk s3 H3 scope ce fp) [] σ' H' s' → (∀ b ∈ fp, H' b = none) → ∀ b ∈ fp, FpOk (X.blk s3 H3 scope ce fp) [] H' b := fun {σ' H' s'} I' hn b hb =>
    ⟨hn b hb, (I'.ok.exf b hb).1, I'.ok.exfs b hb, .inl hb, fun x c e => (I'.ok.exf b hb).2 x c e, fun p hp => absurd (show p ∈ ([] : List (Addr × Obj)) ++ [] from hp) (by simp)⟩
  have loop : codeAny (model X.prog X.w) X.A (.compLoop (.SetComp elt [⟨tg, iter, ifs, 0⟩, ⟨tg1, iter1, ifs1, 0⟩] scope pos) 0 (.ref it) (.ref D) ce) (compPost (model X.prog X.w) X.A X.xe use Qf (.ref D) s3.heap.objs.size) s4 := by
    refine compSLoop2_out (hs1 ce) (fun n s' => ∃ i H', Inv (X.blk s3 H3 scope ce fp) [] (wipe σ (own.map (·.2))) H' s' ∧ tn i s'.heap ∧ (∀ b ∈ fp, H' b = none) ∧ W i n H') ?_ m0 ⟨0, H3, I4, st4, nfp, w0⟩
    rintro n s5 ⟨i, H5, I5, st5, n5, w5⟩
    rcases turn i n H5 w5 with ⟨stop, qq⟩ | ⟨go, Nx, hNx, step⟩
    · have td := T.done (X.blk s3 H3 scope ce fp) rfl rfl rfl hc i [] s5 _ H5 (fun _ _ => False) I5 (stat I5 n5) st5 stop
      refine thnF td fun r s6 ⟨hr, I6⟩ => ?_
      subst hr
      have I7 : Inv X pins σ H5 s6 := I3.call' (ch := fp) I6.os I6.base I6.hok I6.bare fun b hb => ⟨(f3 b hb).1.2.2.2.1, (f3 b hb).1.2.1, (f3 b hb).1.2.2.2.2.1, (f3 b hb).1.2.2.2.2.2⟩
      have nC : H5 s3.heap.objs.size = none := by
        have z : H5 ce.locals = none := I6.free
        rw [cL] at z
        exact z
      obtain ⟨m, hn, _⟩ := I6.loc
      have hn : s6.heap.Ns ce.locals m := hn
      rw [cL] at hn
      exact hRR D s3.heap.objs.size s6 m H5 I7 qq hn (I3.fpOk (Nat.le_refl _) nC)
    · have ti := T.item (X.blk s3 H3 scope ce fp) rfl rfl rfl hc i [] s5 _ H5 (fun _ _ => False) I5 (stat I5 n5) st5 go
      refine thnF ti fun r s6 ⟨u, hr, h6⟩ => ?_
      subst hr
      refine thnF h6 fun _ s7 ⟨x, H7, I7, r7, y7, st7, n7⟩ => ?_
      have I7' := I7.pinned (stat I7 n7) (T.obj _ _ st7)
      refine thnF (pg.run _ s7 _ H7 x u _ I7' r7 (step x H7 y7)) fun _ s8 ⟨σ8, H8, I8, hw8, q8⟩ => ?_
      refine thnF (pt.run _ s8 σ8 H8 _ I8 q8) fun b s9 ⟨H9, I9, q9⟩ => ?_
      have fin : ∀ {σ9 : L2.St} {s' : Shared} {H' : Hp}, Inv (X.blk s3 H3 scope ce fp) ([] ++ pinsAt fp s7.heap) σ9 H' s' → (wipe σ (own.map (·.2))).length = σ9.length → (∀ (j : Nat) v, (wipe σ (own.map (·.2)))[j]? = some (some v) → σ9[j]? = some (some v)) → Nx H' →
          ∃ m, m < n ∧ ∃ i H', Inv (X.blk s3 H3 scope ce fp) [] (wipe σ (own.map (·.2))) H' s' ∧ tn i s'.heap ∧ (∀ b ∈ fp, H' b = none) ∧ W i m H' := fun {σ9 s' H'} I' hl hk nx => by
        obtain ⟨m', hm, w'⟩ := hNx H' nx
        have pin' : ∀ b ∈ fp, ∀ o, s7.heap.get? b = some o → s'.heap.get? b = some o ∧ H' b = none := fun b hb o e =>
          let z := I'.pin (b, o) (List.mem_append_right _ (List.mem_append_right _ (mem_pinsAt hb e)))
          ⟨z.1, z.2.1⟩
        refine ⟨m', hm, i + 1, H', (I'.unpinned (pins := [])).weak hl hk, T.keep _ _ _ st7 fun b hb o e => (pin' b hb o e).1, fun b hb => ?_, w'⟩
        obtain ⟨o, e, _⟩ := T.obj _ _ st7 b hb
        exact (pin' b hb o e).2
      have hl8 : (wipe σ (own.map (·.2))).length = σ8.length := by rw [← hw8, wipe_length]
      have hk8 : ∀ (j : Nat) v, (wipe σ (own.map (·.2)))[j]? = some (some v) → σ8[j]? = some (some v) := fun j v e => by
        rw [← hw8] at e
        exact (wipe_some e).1
      have hk9 : ∀ (j : Nat) v, (wipe σ (own.map (·.2)))[j]? = some (some v) → (wipe σ8 vs1)[j]? = some (some v) := fun j v e => by
        rw [← hw8] at e
        obtain ⟨e1, e2⟩ := wipe_some e
        rw [wipe_out fun z => e2 (hv j z)]
        exact e1
      cases b with
      | false =>
        simp only [Bool.false_eq_true, if_false] at q9 ⊢
        exact fin I9 hl8 hk8 q9
      | true =>
        simp only [if_true] at q9 ⊢
        refine thnF (pi1.run _ s9 σ8 H9 _ I9 q9) fun xv s10 hx => thnF hx fun itv s11 h11 => ?_
        obtain ⟨it1, fp1, tn1, J1, H11, e1, I11, T1, st11, f11, W1, ⟨m1, w1⟩, turn1⟩ := h11
        subst e1
        have stat1 : ∀ {H' : Hp}, (∀ b ∈ fp1, H' b = none) → ∀ b ∈ fp1, FpOk (X.blk s3 H3 scope ce fp) ([] ++ pinsAt fp s7.heap) H' b := fun hn b hb => ⟨hn b hb, (f11 b hb).2⟩
        have loop1 : codeAny (model X.prog X.w) X.A (.compLoop (.SetComp elt [⟨tg, iter, ifs, 0⟩, ⟨tg1, iter1, ifs1, 0⟩] scope pos) 1 (.ref it1) (.ref D) ce)
            (fun r s' => match r with
              | .ok _ => ∃ m, m < n ∧ ∃ i H', Inv (X.blk s3 H3 scope ce fp) [] (wipe σ (own.map (·.2))) H' s' ∧ tn i s'.heap ∧ (∀ b ∈ fp, H' b = none) ∧ W i m H'
              | .error _ => False) s11 := by
          refine compSLoop2_in (fun k s' => ∃ j H', Inv (X.blk s3 H3 scope ce fp) ([] ++ pinsAt fp s7.heap) (wipe σ8 vs1) H' s' ∧ tn1 j s'.heap ∧ (∀ b ∈ fp1, H' b = none) ∧ W1 j k H') ?_ m1 ⟨0, H11, I11.weak (wipe_length _ _) (fun j v e => (wipe_some e).1), st11, fun b hb => (f11 b hb).1, w1⟩
          rintro k s12 ⟨j, H12, I12, st12, n12, w12⟩
          rcases turn1 j k H12 w12 with ⟨stop1, nx1⟩ | ⟨go1, Nx1, hNx1, step1⟩
          · refine thnF (T1.done (X.blk s3 H3 scope ce fp) rfl rfl rfl hc j _ s12 (wipe σ8 vs1) H12 (fun _ _ => False) I12 (stat1 n12) st12 stop1) fun r s13 ⟨hr, I13⟩ => ?_
            subst hr
            exact fin I13 (hl8.trans (wipe_length σ8 vs1).symm) hk9 nx1
          · refine thnF (T1.item (X.blk s3 H3 scope ce fp) rfl rfl rfl hc j _ s12 (wipe σ8 vs1) H12 (fun _ _ => False) I12 (stat1 n12) st12 go1) fun r s13 ⟨u1, hr, h13⟩ => ?_
            subst hr
            refine thnF h13 fun _ s14 ⟨x1, H14, I14, r14, y14, st14, n14⟩ => ?_
            have I14' := I14.pinned (stat1 n14) (T1.obj _ _ st14)
            refine thnF (pg1.run _ s14 (wipe σ8 vs1) H14 x1 u1 _ I14' r14 (step1 x1 H14 y14)) fun _ s15 ⟨σ15, H15, I15, hw15, q15⟩ => ?_
            refine thnF (pt1.run _ s15 σ15 H15 _ I15 q15) fun b1 s16 ⟨H16, I16, q16⟩ => ?_
            have fin1 : ∀ {s' : Shared} {H' : Hp}, Inv (X.blk s3 H3 scope ce fp) (([] ++ pinsAt fp s7.heap) ++ pinsAt fp1 s14.heap) σ15 H' s' → Nx1 H' → ∃ m, m < k ∧ ∃ j H', Inv (X.blk s3 H3 scope ce fp) ([] ++ pinsAt fp s7.heap) (wipe σ8 vs1) H' s' ∧ tn1 j s'.heap ∧ (∀ b ∈ fp1, H' b = none) ∧ W1 j m H' := fun {s' H'} I' nx => by
              obtain ⟨m', hm, w'⟩ := hNx1 H' nx
              have pin' : ∀ b ∈ fp1, ∀ o, s14.heap.get? b = some o → s'.heap.get? b = some o ∧ H' b = none := fun b hb o e =>
                let z := I'.pin (b, o) (List.mem_append_right _ (List.mem_append_right _ (mem_pinsAt hb e)))
                ⟨z.1, z.2.1⟩
              refine ⟨m', hm, j + 1, H', I'.unpinned.weak (by rw [← hw15, wipe_length]) (fun j v e => by rw [← hw15] at e; exact (wipe_some e).1), T1.keep _ _ _ st14 fun b hb o e => (pin' b hb o e).1, fun b hb => ?_, w'⟩
              obtain ⟨o, e, _⟩ := T1.obj _ _ st14 b hb
              exact (pin' b hb o e).2
            cases b1 with
            | false =>
              simp only [Bool.false_eq_true, if_false] at q16 ⊢
              exact fin1 I16 q16
            | true =>
              simp only [if_true] at q16 ⊢
              refine thnF (pe.run _ s16 σ15 H16 _ I16 q16) fun z s17 ⟨yv, H17, I17, r17, cb, S0, n0, ey, hD17, hz17, nx⟩ => ?_
              subst ey
              exact addM_ok (X := X.blk s3 H3 scope ce fp) I17 hD17 r17 hz17 fun s18 I18 => fin1 I18 nx
        exact compSStart1_ok loop1 (T1.self X.A 0 _ _ _ st11 loop1)
  exact PpSet.codeAny_compStart_set loop (T.self X.A 0 _ _ _ st4 loop)
theorem pe_scM2 {elt tg iter tg1 iter1 : Expr} {ifs ifs1 : List Expr} {scope : Scope} {own : List (Str × Nat)} {vs1 : List Nat} {pos : Pos} {wi wi1 : TI} {g g1 : TG} {tt tt1 : TT} {te : TE} (hc : X.calm = true) (hN : X.N.Nodup) (hi : PI X tg iter wi) (ok : BlkOk X.N X.env.scope scope own) (hv : ∀ i ∈ vs1, i ∈ own.map (·.2))
    (hg : ∀ (s : Shared) (H : Hp) (C : Addr) (cl : List (Str × Addr)) (fp : List Addr), PG (X.blk s H scope (compEnvC scope cl C X.env) fp) tg g) (ht : ∀ (s : Shared) (H : Hp) (C : Addr) (cl : List (Str × Addr)) (fp : List Addr), PTs (X.blk s H scope (compEnvC scope cl C X.env) fp) ifs tt)
    (hi1 : ∀ (s : Shared) (H : Hp) (C : Addr) (cl : List (Str × Addr)) (fp : List Addr), PI (X.blk s H scope (compEnvC scope cl C X.env) fp) tg1 iter1 wi1)
    (hg1 : ∀ (s : Shared) (H : Hp) (C : Addr) (cl : List (Str × Addr)) (fp : List Addr), PG (X.blk s H scope (compEnvC scope cl C X.env) fp) tg1 g1) (ht1 : ∀ (s : Shared) (H : Hp) (C : Addr) (cl : List (Str × Addr)) (fp : List Addr), PTs (X.blk s H scope (compEnvC scope cl C X.env) fp) ifs1 tt1)
    (he : ∀ (s : Shared) (H : Hp) (C : Addr) (cl : List (Str × Addr)) (fp : List Addr), PE (X.blk s H scope (compEnvC scope cl C X.env) fp) elt te) (hs : ∀ x, foldedSetIterable iter X.env x = pure x := by intro _; rfl) (hs1 : ∀ env x, foldedSetIterable iter1 env x = pure x := by intro _ _; rfl) :
    PE X (.SetComp elt [⟨tg, iter, ifs, 0⟩, ⟨tg1, iter1, ifs1, 0⟩] scope pos) (tScM2 X.w wi g tt wi1 g1 tt1 te (own.map (·.2)) vs1) := by
  refine ⟨fun pins s σ H Q I h => ?_⟩
  rw [PpSet.eval_SetComp]
  refine scM2_core hc hN I hi ok hv hg ht he hs hi1 hg1 ht1 hs1 h fun D C s' m H' I' q hn f => ⟨m, hn, fun h'' sb => ?_⟩
  obtain ⟨f0, f1, f2, f3, f4, f5⟩ := f
  exact ⟨.ref D, H', I'.turned (t' := s'.toks) (fun b o hb e => (sb.2 b hb).trans e) f0 f1 f3 f4 f5, rfl, q⟩
end Gt
set_option Elab.async false
set_option linter.all false
set_option maxRecDepth 100000
set_option maxHeartbeats 2000000
namespace Gt
open PySem PySem.Spec PyProof.Rows L2 RZ StX
abbrev finSc (l : List D) (S : Ms) : Rs Sl := lift (sortSetS [.lst l]) S
def eSc1 (g : Tg) (fi : Fi) (t : Ft) (fe : Fe) : Fe := fun δ S => (fi δ S).bind fun xs S => if xs.length ≤ cap then (compL g t fe (wipeD δ (slotsT g)) xs S).bind fun ys S => finSc ys S else .st
def comp2L (g : Tg) (fi1 : Fi) (g1 : Tg) (fe : Fe) (δ : Evm) : List D → Ms → Rs (List D)
  | [], S => .ok [] S
  | d :: ds, S => match setT g d δ with
    | none => .st
    | some δ1 => (cut (fi1 δ1 S)).bind fun xs S => (compL g1 tYes' fe (wipeD δ1 (slotsT g1)) xs S).bind fun ys S => (comp2L g fi1 g1 fe δ ds S).bind fun zs S => .ok (ys ++ zs) S
def eSc2 (g : Tg) (fi : Fi) (g1 : Tg) (fi1 : Fi) (fe : Fe) : Fe := fun δ S => (fi δ S).bind fun xs S => if xs.length ≤ cap then (comp2L g fi1 g1 fe (wipeD δ (slotsT g ++ slotsT g1)) xs S).bind fun ys S => finSc ys S else .st
theorem keysD_keys : ∀ ks : List Key, keysD (ks.map keyD) = some ks
  | [] => rfl
  | .inl i :: ks => by simp [keyD, keysD, keysD_keys ks]
  | .inr i :: ks => by simp [keyD, keysD, keysD_keys ks]
theorem keysD_app : ∀ (a b : List D) (ks : List Key), keysD (a ++ b) = some ks → ∃ k1 k2, keysD a = some k1 ∧ keysD b = some k2 ∧ ks = k1 ++ k2
  | [], b, ks, h => ⟨[], ks, rfl, h, rfl⟩
  | x :: a, b, ks, h => by
    cases x <;> simp only [List.cons_append, keysD, reduceCtorEq] at h
    all_goals
      cases q : keysD (a ++ b) with
      | none => rw [q] at h; cases h
      | some r =>
        rw [q] at h
        cases h
        obtain ⟨k1, k2, e1, e2, rfl⟩ := keysD_app a b r q
        exact ⟨_ :: k1, k2, by simp only [keysD, e1]; rfl, e2, rfl⟩
theorem sortSet_key {a b : List D} {y : D} {s : Sl} (h : sortSetS [.lst (a ++ y :: b)] = some s) : (∃ k, y = keyD k) ∧ a.length < 4000 := by
  unfold sortSetS seqD at h
  dsimp only at h
  cases q : keysD (a ++ y :: b) with
  | none => rw [q] at h; cases h
  | some ks =>
    rw [q] at h
    dsimp only at h
    have len : ∀ (l : List D) (ks : List Key), keysD l = some ks → ks.length = l.length := by
      intro l
      induction l with
      | nil => intro ks e; cases e; rfl
      | cons x l ih =>
        intro ks e
        cases x <;> simp only [keysD, reduceCtorEq] at e
        all_goals
          cases q : keysD l with
          | none => rw [q] at e; cases e
          | some r => rw [q] at e; cases e; simp [ih r q]
    split at h
    · rename_i c
      have l1 := len _ _ q
      rw [List.length_append, List.length_cons] at l1
      obtain ⟨k1, k2, e1, e2, rfl⟩ := keysD_app _ _ _ q
      refine ⟨?_, by have := c.2; omega⟩
      cases y <;> simp only [keysD, reduceCtorEq] at e2
      case int i => exact ⟨.inl i, rfl⟩
      case str x => exact ⟨.inr x, rfl⟩
    · cases h
theorem sortSet_end {ks : List Key} {s : Sl} (h : sortSetS [.lst (ks.map keyD)] = some s) : homK ks = true ∧ s = .own ((sortK ks).map keyD) := by
  unfold sortSetS seqD at h
  dsimp only at h
  rw [keysD_keys] at h
  dsimp only at h
  split at h
  · rename_i c; cases h; exact ⟨c.1, rfl⟩
  · cases h
theorem compL_nx {g : Tg} {t : Ft} {fe : Fe} {δ : Evm} : ∀ (xs : List D) (S : Ms) (x : Xn) (S' : Ms), compL g t fe δ xs S ≠ .ex x S'
  | [], S, x, S' => fun h => by cases h
  | d :: ds, S, x, S' => fun h => by
    simp only [compL] at h
    cases e : setT g d δ with
    | none => rw [e] at h; cases h
    | some δ1 =>
      rw [e] at h
      dsimp only at h
      cases e1 : t δ1 S with
      | st => rw [e1] at h; cases h
      | ex _ _ => rw [e1] at h; cases h
      | ok b S1 =>
        rw [e1, cut_ok, bind_ok] at h
        split at h
        · cases e2 : fe δ1 S1 with
          | st => rw [e2] at h; cases h
          | ex _ _ => rw [e2] at h; cases h
          | ok a S2 =>
            rw [e2, cut_ok, bind_ok] at h
            cases e3 : toP a with
            | none => rw [e3] at h; cases h
            | some y =>
              rw [e3] at h
              dsimp only at h
              cases e4 : compL g t fe δ ds S2 with
              | st => rw [e4] at h; cases h
              | ex _ _ => exact compL_nx ds S2 _ _ e4
              | ok _ _ => rw [e4] at h; cases h
        · exact compL_nx ds S1 x S' h
theorem comp2L_nx {g g1 : Tg} {fi1 : Fi} {fe : Fe} {δ : Evm} : ∀ (xs : List D) (S : Ms) (x : Xn) (S' : Ms), comp2L g fi1 g1 fe δ xs S ≠ .ex x S'
  | [], S, x, S' => fun h => by cases h
  | d :: ds, S, x, S' => fun h => by
    simp only [comp2L] at h
    cases e : setT g d δ with
    | none => rw [e] at h; cases h
    | some δ1 =>
      rw [e] at h
      dsimp only at h
      cases e1 : fi1 δ1 S with
      | st => rw [e1] at h; cases h
      | ex _ _ => rw [e1] at h; cases h
      | ok b S1 =>
        rw [e1, cut_ok, bind_ok] at h
        cases e2 : compL g1 tYes' fe (wipeD δ1 (slotsT g1)) b S1 with
        | st => rw [e2] at h; cases h
        | ex _ _ => exact compL_nx _ _ _ _ e2
        | ok _ S2 =>
          rw [e2, bind_ok] at h
          cases e4 : comp2L g fi1 g1 fe δ ds S2 with
          | st => rw [e4] at h; cases h
          | ex _ _ => exact comp2L_nx ds S2 _ _ e4
          | ok _ _ => rw [e4] at h; cases h
theorem setAll_own : ∀ (is : List Nat) (ds : List D) {δ δ' : Evm} {j : Nat} {w : Sl}, setAll is ds δ = some δ' → δ'[j]? = some w → isOwn w = true → δ[j]? = some w
  | [], [], δ, δ', j, w, e, h, o => by cases e; exact h
  | [], _ :: _, δ, δ', j, w, e, h, o => by simp [setAll] at e
  | _ :: _, [], δ, δ', j, w, e, h, o => by simp [setAll] at e
  | i :: is, d :: ds, δ, δ', j, w, e, h, o => by
    simp only [setAll] at e
    split at e
    · rename_i c
      have := setAll_own is ds e h o
      by_cases q : j = i
      · subst q
        rw [List.getElem?_set_self c] at this
        cases this
        cases o
      · rw [List.getElem?_set_ne (Ne.symm q)] at this
        exact this
    · cases e
theorem setT_own {g : Tg} {d : D} {δ δ' : Evm} {j : Nat} {w : Sl} (e : setT g d δ = some δ') (h : δ'[j]? = some w) (o : isOwn w = true) : δ[j]? = some w := by
  cases g with
  | nm i =>
    simp only [setT] at e
    split at e
    · rename_i c
      cases e
      by_cases q : j = i
      · subst q
        rw [List.getElem?_set_self c] at h
        cases h
        cases o
      · rw [List.getElem?_set_ne (Ne.symm q)] at h
        exact h
    · cases e
  | tp is =>
    cases d <;> simp only [setT, reduceCtorEq] at e
    exact setAll_own is _ e h o
theorem wipeD_no : ∀ (vs : List Nat) (δ : Evm) (j : Nat) {w : Sl}, j ∈ vs → (wipeD δ vs)[j]? = some w → w = .no
  | [], _, _, _, h, _ => by cases h
  | v :: vs, δ, j, w, h, e => by
    unfold wipeD at e
    by_cases q : j = v
    · subst q
      by_cases c : j < (wipeD δ vs).length
      · rw [List.getElem?_set_self c] at e; cases e; rfl
      · rw [List.getElem?_eq_none (by rw [List.length_set]; omega)] at e; cases e
    · rw [List.getElem?_set_ne (Ne.symm q)] at e
      exact wipeD_no vs δ j ((List.mem_cons.mp h).resolve_left q) e
structure CT (w : World) (K : PySem.W.Frag) (B : Bs) (F1 : Hp) (μ1 : List Addr) (H1 : Hp) (D : Addr) (δ : Evm) (σ : L2.St) (F : Hp) (μ : List Addr) (S : Ms) (H : Hp) (ks : List Key) : Prop where
  st : StR K B F μ S δ σ H
  go : Stp F1 μ1 H1 F μ H
  hd : ∃ Sf n, H D = some (SetMO w D Sf n) ∧ (∀ k, Sf k = true ↔ k ∈ ks) ∧ n ≤ ks.length
  nF : F D = none
  nM : D ∉ μ
section
variable {w : World} {K : PySem.W.Frag} {W : WX} {B : Bs} {F1 F F' H1 H H' : Hp} {μ1 μ μ' : List Addr} {S S' : Ms} {δ : Evm} {σ : L2.St} {D : Addr} {ks : List Key}
theorem CT.on (c : CT w K B F1 μ1 H1 D δ σ F μ S H ks) (t : Stp F μ H F' μ' H') (o : Ok K F' μ' S' H') : CT w K B F1 μ1 H1 D δ σ F' μ' S' H' ks := by
  obtain ⟨Sf, n, h1, h2, h3⟩ := c.hd
  exact ⟨c.st.go t o, c.go.trans t, ⟨Sf, n, t.kp _ _ h1 c.nM, h2, h3⟩, t.noF h1 c.nF, t.noM h1 c.nM⟩
theorem CT.add (c : CT w K B F1 μ1 H1 D δ σ F μ S H ks) (hD : H1 D = none) (hb : B.H D = none) (far : ∀ (j : Nat) (w : Sl), δ[j]? = some w → isOwn w = true → σ[j]? ≠ some (some (V.ref D))) (k : Key) {Sf : Key → Bool} {n : Nat} (hm : ∀ k, Sf k = true ↔ k ∈ ks) (hn : n ≤ ks.length) :
    CT w K B F1 μ1 H1 D δ σ F μ S (upd H D (SetMO w D (fun j => Sf j || decide (j = k)) (if Sf k = true then n else n + 1))) (ks ++ [k]) := by
  refine ⟨c.st.tmp hb c.nF c.nM far, Stp.upd c.go hD, ⟨_, _, upd_same, fun j => ?_, ?_⟩, c.nF, c.nM⟩
  · rw [Bool.or_eq_true, decide_eq_true_eq, hm j, List.mem_append, List.mem_singleton]
  · rw [List.length_append, List.length_singleton]
    split <;> omega
theorem oe_key {r : Rs (List Gt.D)} {a : List Gt.D} {y : Gt.D} {Q : VK} (h : OE K W F μ H σ δ Q (r.bind fun ys S => finSc (a ++ y :: ys) S)) (nx : ∀ x S, r ≠ .ex x S) : (∃ k, y = keyD k) ∧ a.length < 4000 := by
  cases r with
  | st => exact (show False from h).elim
  | ex x S => exact (nx x S rfl).elim
  | ok ys S =>
    rw [bind_ok] at h
    cases q : sortSetS [.lst (a ++ y :: ys)] with
    | none => unfold finSc at h; rw [q] at h; exact (show False from h).elim
    | some s => exact sortSet_key q
theorem Rp.key_inv {v : V} {k : Key} (h : Rp K F μ v (keyD k)) : v = kV k := by
  cases k with
  | inl i => cases h; rfl
  | inr x => cases h; rfl
theorem sc_end (ct : CT w K B F1 μ1 H1 D δ σ F μ S H ks) {σ0 : L2.St} {δ0 : Evm} {Q : VK} (o : OE K W F1 μ1 H1 σ0 δ0 Q (finSc (ks.map keyD) S)) : rSortedM w [.ref D] H Q := by
  unfold finSc at o
  cases q : sortSetS [.lst (ks.map keyD)] with
  | none => rw [q] at o; exact (show False from o).elim
  | some s =>
    rw [q] at o
    obtain ⟨hom, rfl⟩ := sortSet_end q
    obtain ⟨Sf, n, h1, h2, h3⟩ := ct.hd
    refine ⟨D, Sf, n, ks, rfl, h1, h2, hom, fun p hp => ?_⟩
    have o3 := OE.go ct.go o
    have t3 := Stp.new ct.st.ok (u := .lst ((sortK ks).map kV)) hp
    exact o3 F μ _ _ t3 (ct.st.ok.new hp) ⟨p, _, rfl, upd_same, RpA.keys _, (ct.st.ok.free hp).1, (ct.st.ok.free hp).2, hp⟩
end
section
variable {w : World} {X : Cx} {W : WX}
theorem sc1_of {g : Tg} {fi : Fi} {t : Ft} {fe : Fe} {K : PySem.W.Frag} {vs : List Nat} (hv : vs = slotsT g) {σ : L2.St} {H : Hp} {Q : VK} (q : wE K W (eSc1 g fi t fe) σ H Q) : tScM w (wI K W (some vs) fi) (gTg K g) (wT K W0 t) (wE K W0 fe) vs σ H (fun x H2 => tNil σ H2 fun ys H3 => rSortedM w (x :: ys) H3 Q) := by
  subst hv
  obtain ⟨B, F, μ, S, δ, hs, ho⟩ := q
  refine ⟨B, F, μ, S, δ, hs, ?_⟩
  have ho2 : OE K W F μ H σ δ Q ((fi δ S).bind fun xs S => if xs.length ≤ cap then (compL g t fe (wipeD δ (slotsT g)) xs S).bind fun ys S => finSc ys S else .st) := ho
  cases e : fi δ S with
  | st => rw [e] at ho2; exact ho2
  | ex x S1 => rw [e] at ho2; exact ho2
  | ok xs S1 =>
    rw [e, bind_ok] at ho2
    intro F1 μ1 H1 J G t1 o1 wk kp D0 hD
    have hcap : xs.length ≤ cap := by
      by_cases h : xs.length ≤ cap
      · exact h
      · rw [if_neg h] at ho2; exact ho2.elim
    rw [if_pos hcap] at ho2
    have h1 := hs.go t1 o1
    have hw := h1.wipe (slotsT g)
    have hDb : B.H D0 = none := h1.st.tr _ hD
    have far : ∀ (j : Nat) (w : Sl), (wipeD δ (slotsT g))[j]? = some w → isOwn w = true → (L2.wipe σ (slotsT g))[j]? ≠ some (some (V.ref D0)) := fun j w ej ow z => (hw.own_at ej ow z).1 hD
    obtain ⟨nF1, nM1⟩ := o1.free hD
    refine ⟨fun i m H => m = xs.length - i ∧ i ≤ xs.length ∧ ∃ F2 μ2 S2 ks, CT w K B F1 μ1 H1 D0 (wipeD δ (slotsT g)) (L2.wipe σ (slotsT g)) F2 μ2 S2 H ks ∧
        OE K W F1 μ1 H1 σ δ Q ((compL g t fe (wipeD δ (slotsT g)) (xs.drop i) S2).bind fun ys S => finSc (ks.map keyD ++ ys) S), ⟨_, rfl, Nat.zero_le _, F1, μ1, S1, [], ⟨hw.tmp hDb nF1 nM1 far, Stp.upd (.refl _ _ _) hD, ⟨_, 0, upd_same, fun k => by simp, Nat.le_refl _⟩, nF1, nM1⟩, ?_⟩, ?_⟩
    · rw [List.drop_zero]
      exact OE.go t1 ho2
    rintro i m H2 ⟨rfl, hi, F2, μ2, S2, ks, c2, o2⟩
    have gd : G F2 μ2 H2 := kp _ _ F2 μ2 S2 _ _ H2 c2.st.re c2.go.fr c2.go.mu fun j hj => ⟨by rw [wipe_get, if_neg hj], wipeD_get _ _ _ hj⟩
    by_cases hlt : i < xs.length
    · have hd : xs.drop i = xs[i] :: xs.drop (i + 1) := List.drop_eq_getElem_cons hlt
      rw [hd] at o2
      have hx : xs[i]? = some xs[i] := List.getElem?_eq_getElem hlt
      obtain ⟨hgo, hy⟩ := wk.go c2.st.ok gd hx
      refine .inr ⟨hgo, fun H' => ∃ F3 μ3 S3 ks, CT w K B F1 μ1 H1 D0 (wipeD δ (slotsT g)) (L2.wipe σ (slotsT g)) F3 μ3 S3 H' ks ∧
        OE K W F1 μ1 H1 σ δ Q ((compL g t fe (wipeD δ (slotsT g)) (xs.drop (i + 1)) S3).bind fun ys S => finSc (ks.map keyD ++ ys) S), fun H' n => ⟨xs.length - (i + 1), by omega, rfl, hlt, n⟩, fun x H' y => ?_⟩
      obtain ⟨F3, t3, o3, r3⟩ := hy x H' y
      have h3 := c2.st.go t3 o3
      simp only [compL] at o2
      cases e4 : setT g xs[i] (wipeD δ (slotsT g)) with
      | none => rw [e4] at o2; exact (show False from o2).elim
      | some δ4 =>
        rw [e4] at o2
        dsimp only at o2
        refine gTg_of h3 r3 e4 fun σ4 h4 ag hl4 => ⟨by rw [wipe_same hl4 fun j hj => (ag j hj).1, wipe_idem], ?_⟩
        refine ⟨B, F3, μ2, S2, δ4, h4, ?_⟩
        cases e5 : t δ4 S2 with
        | st => rw [e5] at o2; exact (show False from o2).elim
        | ex x S5 => rw [e5] at o2; exact (show False from o2).elim
        | ok b S5 =>
          rw [e5, cut_ok, bind_ok] at o2
          intro F5 μ5 H5 t5 o5
          have c5 := c2.on (t3.trans t5) o5
          cases b with
          | false =>
            rw [if_neg (by decide)] at o2 ⊢
            exact ⟨F5, μ5, S5, ks, c5, o2⟩
          | true =>
            rw [if_pos rfl] at o2 ⊢
            have h5 := h4.go t5 o5
            refine ⟨B, F5, μ5, S5, δ4, h5, ?_⟩
            cases e6 : fe δ4 S5 with
            | st => rw [e6] at o2; exact (show False from o2).elim
            | ex x S6 => rw [e6] at o2; exact (show False from o2).elim
            | ok a S6 =>
              rw [e6, cut_ok, bind_ok] at o2
              cases ey : toP a with
              | none => rw [ey] at o2; exact (show False from o2).elim
              | some y =>
                rw [ey] at o2
                have e7 : ((compL g t fe (wipeD δ (slotsT g)) (xs.drop (i + 1)) S6).bind fun ys S => Rs.ok (y :: ys) S).bind (fun ys S => finSc (ks.map keyD ++ ys) S) = (compL g t fe (wipeD δ (slotsT g)) (xs.drop (i + 1)) S6).bind fun ys S => finSc (ks.map keyD ++ y :: ys) S := by
                  rw [bind_bind]; rfl
                dsimp only at o2
                rw [e7] at o2
                obtain ⟨⟨k, rfl⟩, lk⟩ := oe_key o2 (compL_nx _ _)
                rw [List.length_map] at lk
                cases a <;> simp only [toP, reduceCtorEq, Option.some.injEq] at ey
                case pl d =>
                  subst ey
                  intro F6 μ6 H6 v t6 o6 r6
                  have c6 := c5.on t6 o6
                  obtain ⟨Sf, n, q1, q2, q3⟩ := c6.hd
                  refine ⟨k, Sf, n, Rp.key_inv r6, q1, by unfold scanBound; omega, F6, μ6, S6, ks ++ [k], c6.add hD hDb far k q2 q3, ?_⟩
                  rw [List.map_append, List.map_cons, List.map_nil]
                  simpa only [List.append_assoc, List.singleton_append] using o2
                case own zs => cases k <;> cases ey
                case od ks vs => cases k <;> cases ey
    · have ei : i = xs.length := by omega
      refine .inl ⟨wk.stop c2.st.ok gd (by omega), ?_⟩
      rw [ei, List.drop_length] at o2
      simp only [compL, bind_ok, List.append_nil] at o2
      exact sc_end c2 o2
theorem sc2_of {g g1 : Tg} {fi fi1 : Fi} {fe : Fe} {K : PySem.W.Frag} {vs vs1 : List Nat} (hv : vs = slotsT g ++ slotsT g1) (hv1 : vs1 = slotsT g1) {σ : L2.St} {H : Hp} {Q : VK} (q : wE K W (eSc2 g fi g1 fi1 fe) σ H Q) :
    tScM2 w (wI K W (some vs) fi) (gTg K g) (wT K W0 tYes') (wI K W0 (some vs1) fi1) (gTg K g1) (wT K W0 tYes') (wE K W0 fe) vs vs1 σ H (fun x H2 => tNil σ H2 fun ys H3 => rSortedM w (x :: ys) H3 Q) := by
  subst hv hv1
  obtain ⟨B, F, μ, S, δ, hs, ho⟩ := q
  refine ⟨B, F, μ, S, δ, hs, ?_⟩
  have ho2 : OE K W F μ H σ δ Q ((fi δ S).bind fun xs S => if xs.length ≤ cap then (comp2L g fi1 g1 fe (wipeD δ (slotsT g ++ slotsT g1)) xs S).bind fun ys S => finSc ys S else .st) := ho
  cases e : fi δ S with
  | st => rw [e] at ho2; exact ho2
  | ex x S1 => rw [e] at ho2; exact ho2
  | ok xs S1 =>
    rw [e, bind_ok] at ho2
    intro F1 μ1 H1 J G t1 o1 wk kp D0 hD
    have hcap : xs.length ≤ cap := by
      by_cases h : xs.length ≤ cap
      · exact h
      · rw [if_neg h] at ho2; exact ho2.elim
    rw [if_pos hcap] at ho2
    have h1 := hs.go t1 o1
    generalize hV : slotsT g ++ slotsT g1 = V at *
    have hw := h1.wipe V
    have hDb : B.H D0 = none := h1.st.tr _ hD
    have far : ∀ (j : Nat) (w : Sl), (wipeD δ V)[j]? = some w → isOwn w = true → (L2.wipe σ V)[j]? ≠ some (some (L2.V.ref D0)) := fun j w ej ow z => (hw.own_at ej ow z).1 hD
    obtain ⟨nF1, nM1⟩ := o1.free hD
    refine ⟨fun i m H => m = xs.length - i ∧ i ≤ xs.length ∧ ∃ F2 μ2 S2 ks, CT w K B F1 μ1 H1 D0 (wipeD δ V) (L2.wipe σ V) F2 μ2 S2 H ks ∧
        OE K W F1 μ1 H1 σ δ Q ((comp2L g fi1 g1 fe (wipeD δ V) (xs.drop i) S2).bind fun ys S => finSc (ks.map keyD ++ ys) S), ⟨_, rfl, Nat.zero_le _, F1, μ1, S1, [], ⟨hw.tmp hDb nF1 nM1 far, Stp.upd (.refl _ _ _) hD, ⟨_, 0, upd_same, fun k => by simp, Nat.le_refl _⟩, nF1, nM1⟩, ?_⟩, ?_⟩
    · rw [List.drop_zero]
      exact OE.go t1 ho2
    rintro i m H2 ⟨rfl, hi, F2, μ2, S2, ks, c2, o2⟩
    have gd : G F2 μ2 H2 := kp _ _ F2 μ2 S2 _ _ H2 c2.st.re c2.go.fr c2.go.mu fun j hj => ⟨by rw [wipe_get, if_neg hj], wipeD_get _ _ _ hj⟩
    by_cases hlt : i < xs.length
    · have hd : xs.drop i = xs[i] :: xs.drop (i + 1) := List.drop_eq_getElem_cons hlt
      rw [hd] at o2
      have hx : xs[i]? = some xs[i] := List.getElem?_eq_getElem hlt
      obtain ⟨hgo, hy⟩ := wk.go c2.st.ok gd hx
      refine .inr ⟨hgo, fun H' => ∃ F3 μ3 S3 ks, CT w K B F1 μ1 H1 D0 (wipeD δ V) (L2.wipe σ V) F3 μ3 S3 H' ks ∧
        OE K W F1 μ1 H1 σ δ Q ((comp2L g fi1 g1 fe (wipeD δ V) (xs.drop (i + 1)) S3).bind fun ys S => finSc (ks.map keyD ++ ys) S), fun H' n => ⟨xs.length - (i + 1), by omega, rfl, hlt, n⟩, fun x H' y => ?_⟩
      obtain ⟨F3, t3, o3, r3⟩ := hy x H' y
      have h3 := c2.st.go t3 o3
      simp only [comp2L] at o2
      cases e4 : setT g xs[i] (wipeD δ V) with
      | none => rw [e4] at o2; exact (show False from o2).elim
      | some δ4 =>
        rw [e4] at o2
        dsimp only at o2
        refine gTg_of h3 r3 e4 fun σ4 h4 ag hl4 => ⟨?_, ?_⟩
        · rw [wipe_same hl4 fun j hj => (ag j (fun z => hj (by rw [← hV]; exact List.mem_append_left _ z))).1, wipe_idem]
        refine ⟨B, F3, μ2, S2, δ4, h4, fun F5 μ5 H5 t5 o5 => ?_⟩
        show ite (true = true) _ _
        rw [if_pos rfl]
        have c5 := c2.on (t3.trans t5) o5
        have h5 := h4.go t5 o5
        refine ⟨B, F5, μ5, S2, δ4, h5, ?_⟩
        cases e6 : fi1 δ4 S2 with
        | st => rw [e6] at o2; exact (show False from o2).elim
        | ex x S6 => rw [e6] at o2; exact (show False from o2).elim
        | ok xs1 S6 =>
          rw [e6, cut_ok, bind_ok] at o2
          intro F6 μ6 H6 J1 G1 t6 o6 wk1 kp1
          have c6 := c5.on t6 o6
          have h6 := h5.go t6 o6
          have hw1 := h6.wipe (slotsT g1)
          have shape : ∀ (ks : List Key) (zs : List D) (S : Ms), (((compL g1 tYes' fe (wipeD δ4 (slotsT g1)) zs S).bind fun ys S => (comp2L g fi1 g1 fe (wipeD δ V) (xs.drop (i + 1)) S).bind fun zs S => Rs.ok (ys ++ zs) S).bind fun ys S => finSc (ks.map keyD ++ ys) S) =
              (compL g1 tYes' fe (wipeD δ4 (slotsT g1)) zs S).bind fun ys S => (comp2L g fi1 g1 fe (wipeD δ V) (xs.drop (i + 1)) S).bind fun zs S => finSc (ks.map keyD ++ (ys ++ zs)) S := fun ks zs S => by
            rw [bind_bind]
            congr 1
            funext ys S
            rw [bind_bind]; rfl
          rw [shape] at o2
          refine ⟨fun j m H => m = xs1.length - j ∧ j ≤ xs1.length ∧ ∃ F7 μ7 S7 ks, CT w K B F1 μ1 H1 D0 (wipeD δ V) (L2.wipe σ V) F7 μ7 S7 H ks ∧ StR K B F7 μ7 S7 (wipeD δ4 (slotsT g1)) (L2.wipe σ4 (slotsT g1)) H ∧ Sub F6 F7 ∧ Ap μ6 μ7 ∧
              OE K W F1 μ1 H1 σ δ Q ((compL g1 tYes' fe (wipeD δ4 (slotsT g1)) (xs1.drop j) S7).bind fun ys S => (comp2L g fi1 g1 fe (wipeD δ V) (xs.drop (i + 1)) S).bind fun zs S => finSc (ks.map keyD ++ (ys ++ zs)) S), ⟨_, rfl, Nat.zero_le _, F6, μ6, S6, ks, c6, hw1, .refl _, .refl _, by rw [List.drop_zero]; exact o2⟩, ?_⟩
          rintro j m1 H7 ⟨rfl, hj, F7, μ7, S7, ks7, c7, h7, s7, a7, o7⟩
          have gd1 : G1 F7 μ7 H7 := kp1 _ _ F7 μ7 S7 _ _ H7 h7.re s7 a7 fun j hj => ⟨by rw [wipe_get, if_neg hj], wipeD_get _ _ _ hj⟩
          by_cases hlt1 : j < xs1.length
          · have hd1 : xs1.drop j = xs1[j] :: xs1.drop (j + 1) := List.drop_eq_getElem_cons hlt1
            rw [hd1] at o7
            obtain ⟨hgo1, hy1⟩ := wk1.go c7.st.ok gd1 (List.getElem?_eq_getElem hlt1)
            refine .inr ⟨hgo1, fun H' => ∃ F7 μ7 S7 ks, CT w K B F1 μ1 H1 D0 (wipeD δ V) (L2.wipe σ V) F7 μ7 S7 H' ks ∧ StR K B F7 μ7 S7 (wipeD δ4 (slotsT g1)) (L2.wipe σ4 (slotsT g1)) H' ∧ Sub F6 F7 ∧ Ap μ6 μ7 ∧
              OE K W F1 μ1 H1 σ δ Q ((compL g1 tYes' fe (wipeD δ4 (slotsT g1)) (xs1.drop (j + 1)) S7).bind fun ys S => (comp2L g fi1 g1 fe (wipeD δ V) (xs.drop (i + 1)) S).bind fun zs S => finSc (ks.map keyD ++ (ys ++ zs)) S), fun H' n => ⟨xs1.length - (j + 1), by omega, rfl, hlt1, n⟩, fun x1 H8 y1 => ?_⟩
            obtain ⟨F8, t8, o8, r8⟩ := hy1 x1 H8 y1
            have h8 := h7.go t8 o8
            simp only [compL] at o7
            cases e8 : setT g1 xs1[j] (wipeD δ4 (slotsT g1)) with
            | none => rw [e8] at o7; exact (show False from o7).elim
            | some δ8 =>
              rw [e8] at o7
              dsimp only at o7
              refine gTg_of h8 r8 e8 fun σ8 h8' ag8 hl8 => ⟨by rw [wipe_same hl8 fun j hj => (ag8 j hj).1, wipe_idem], ?_⟩
              refine ⟨B, F8, μ7, S7, δ8, h8', fun F9 μ9 H9 t9 o9 => ?_⟩
              show ite (true = true) _ _
              rw [if_pos rfl]
              have c9 := c7.on (t8.trans t9) o9
              have h9 := h7.go (t8.trans t9) o9
              rw [show tYes' δ8 S7 = .ok true S7 from rfl, cut_ok, bind_ok, if_pos rfl] at o7
              refine ⟨B, F9, μ9, S7, δ8, h8'.go t9 o9, ?_⟩
              cases e10 : fe δ8 S7 with
              | st => rw [e10] at o7; exact (show False from o7).elim
              | ex x S10 => rw [e10] at o7; exact (show False from o7).elim
              | ok a S10 =>
                rw [e10, cut_ok, bind_ok] at o7
                cases ey : toP a with
                | none => rw [ey] at o7; exact (show False from o7).elim
                | some y =>
                  rw [ey] at o7
                  dsimp only at o7
                  rw [bind_bind] at o7
                  simp only [bind_ok, List.cons_append] at o7
                  have kk : (∃ k, y = keyD k) ∧ ks7.length < 4000 := by
                    cases e11 : compL g1 tYes' fe (wipeD δ4 (slotsT g1)) (xs1.drop (j + 1)) S10 with
                    | st => rw [e11] at o7; exact (show False from o7).elim
                    | ex x S11 => exact (compL_nx _ _ _ _ e11).elim
                    | ok ys S11 =>
                      rw [e11, bind_ok] at o7
                      cases e12 : comp2L g fi1 g1 fe (wipeD δ V) (xs.drop (i + 1)) S11 with
                      | st => rw [e12] at o7; exact (show False from o7).elim
                      | ex x S12 => exact (comp2L_nx _ _ _ _ e12).elim
                      | ok zs S12 =>
                        rw [e12, bind_ok] at o7
                        have := oe_key (r := .ok (ys ++ zs) S12) (a := ks7.map keyD) (y := y) (by rw [bind_ok]; exact o7) (fun _ _ z => by cases z)
                        rw [List.length_map] at this
                        exact this
                  obtain ⟨⟨k, rfl⟩, lk⟩ := kk
                  cases a <;> simp only [toP, reduceCtorEq, Option.some.injEq] at ey
                  case pl d =>
                    subst ey
                    intro F10 μ10 H10 v t10 o10 r10
                    have c10 := c9.on t10 o10
                    have h10 := h9.go t10 o10
                    obtain ⟨Sf, n, q1, q2, q3⟩ := c10.hd
                    have tt := (t8.trans t9).trans t10
                    have far2 : ∀ (j : Nat) (w : Sl), (wipeD δ4 (slotsT g1))[j]? = some w → isOwn w = true → (L2.wipe σ4 (slotsT g1))[j]? ≠ some (some (L2.V.ref D0)) := fun j w ej ow z => by
                      by_cases hjv : j ∈ V
                      · have := h10.sl j w ej
                        rw [z] at this
                        rw [wipe_get] at z
                        split at z
                        · cases q : σ4[j]? with
                          | none => rw [q] at z; cases z
                          | some _ => rw [q] at z; cases z
                        · rename_i hj1
                          rw [wipeD_get _ _ _ hj1] at ej
                          have hjg : j ∈ slotsT g := by rw [← hV] at hjv; exact (List.mem_append.mp hjv).resolve_right hj1
                          have ew := setT_own e4 ej ow
                          rw [wipeD_no _ _ _ hjv ew] at ow
                          cases ow
                      · have hj1 : j ∉ slotsT g1 := fun z => hjv (by rw [← hV]; exact List.mem_append_right _ z)
                        have hj0 : j ∉ slotsT g := fun z => hjv (by rw [← hV]; exact List.mem_append_left _ z)
                        rw [wipeD_get _ _ _ hj1] at ej
                        rw [wipe_get, if_neg hj1] at z
                        obtain ⟨a1, a2⟩ := ag j hj0
                        rw [a2] at ej
                        rw [a1] at z
                        exact far j w ej ow z
                    refine ⟨k, Sf, n, Rp.key_inv r10, q1, by unfold scanBound; omega, F10, μ10, S10, ks7 ++ [k], c10.add hD hDb far k q2 q3, h10.tmp hDb c10.nF c10.nM far2, s7.trans tt.fr, a7.trans tt.mu, ?_⟩
                    rw [List.map_append, List.map_cons, List.map_nil]
                    simpa only [List.append_assoc, List.singleton_append] using o7
                  case own zs => cases k <;> cases ey
                  case od ks vs => cases k <;> cases ey
          · have ej : j = xs1.length := by omega
            refine .inl ⟨wk1.stop c7.st.ok gd1 (by omega), F7, μ7, S7, ks7, c7, ?_⟩
            rw [ej, List.drop_length] at o7
            simp only [compL, bind_ok, List.nil_append] at o7
            exact o7
    · have ei : i = xs.length := by omega
      refine .inl ⟨wk.stop c2.st.ok gd (by omega), ?_⟩
      rw [ei, List.drop_length] at o2
      simp only [comp2L, bind_ok, List.append_nil] at o2
      exact sc_end c2 o2
end
end Gt
set_option Elab.async false
set_option linter.all false
set_option maxRecDepth 100000
namespace Gt
open PySem PySem.Spec PyProof.Rows L2 RZ StX
section
variable {X : Cx} {W : WX} {elt iter tg iter1 tg1 : Expr} {ifs : List Expr} {scope : Scope} {own : List (Str × Nat)} {fi fi1 : Fi} {t : Ft} {fe : Fe} {g g1 : Tg} {pos p cpos : Pos} {k : Nat}
theorem se_sortSc1 (hr : Room k X.A) (hg0 : Gl X "sorted") (hm : X.mg "sorted" = none) (hc : X.calm = true) (hN : X.N.Nodup) (hi : SI X W (some (own.map (·.2))) tg iter fi) (ok : BlkOk X.N X.env.scope scope own) (hv : own.map (·.2) = slotsT g)
    (hg : ∀ (s : Shared) (H : Hp) (C : Addr) (cl : List (Str × Addr)) (fp : List Addr), PG (X.blk s H scope (compEnvC scope cl C X.env) fp) tg (gTg X.K g)) (ht : ∀ (s : Shared) (H : Hp) (C : Addr) (cl : List (Str × Addr)) (fp : List Addr), PTs (X.blk s H scope (compEnvC scope cl C X.env) fp) ifs (wT X.K W0 t))
    (he : ∀ (s : Shared) (H : Hp) (C : Addr) (cl : List (Str × Addr)) (fp : List Addr), SE (X.blk s H scope (compEnvC scope cl C X.env) fp) W0 elt fe) (hs : ∀ x, foldedSetIterable iter X.env x = pure x := by intro _; rfl)
    (he0 : starEach [.SetComp elt [⟨tg, iter, ifs, 0⟩] scope cpos] X.env = (false, eval (.SetComp elt [⟨tg, iter, ifs, 0⟩] scope cpos) X.env) :: starEach [] X.env := by rfl) :
    SE X W (.Call (.Name "sorted" p) [.SetComp elt [⟨tg, iter, ifs, 0⟩] scope cpos] [] pos) (eSc1 g fi t fe) :=
  PE.imp (pe_callB (cr_sortedM hc (by have := hr.un; omega)) hg0 hm (by decide +kernel) (pa_cons (pe_scM hc hN hi ok hg ht he hs) pa_nil he0) (by decide) (by decide) he0 (by rfl)) fun _ _ _ => sc1_of hv
theorem se_sortSc2 {own1 : List Nat} (hr : Room k X.A) (hg0 : Gl X "sorted") (hm : X.mg "sorted" = none) (hc : X.calm = true) (hN : X.N.Nodup) (hi : SI X W (some (own.map (·.2))) tg iter fi) (ok : BlkOk X.N X.env.scope scope own) (hv : own.map (·.2) = slotsT g ++ slotsT g1) (hv1 : own1 = slotsT g1) (hin : ∀ i ∈ own1, i ∈ own.map (·.2))
    (hg : ∀ (s : Shared) (H : Hp) (C : Addr) (cl : List (Str × Addr)) (fp : List Addr), PG (X.blk s H scope (compEnvC scope cl C X.env) fp) tg (gTg X.K g))
    (hi1 : ∀ (s : Shared) (H : Hp) (C : Addr) (cl : List (Str × Addr)) (fp : List Addr), SI (X.blk s H scope (compEnvC scope cl C X.env) fp) W0 (some own1) tg1 iter1 fi1)
    (hg1 : ∀ (s : Shared) (H : Hp) (C : Addr) (cl : List (Str × Addr)) (fp : List Addr), PG (X.blk s H scope (compEnvC scope cl C X.env) fp) tg1 (gTg X.K g1))
    (he : ∀ (s : Shared) (H : Hp) (C : Addr) (cl : List (Str × Addr)) (fp : List Addr), SE (X.blk s H scope (compEnvC scope cl C X.env) fp) W0 elt fe) (hs : ∀ x, foldedSetIterable iter X.env x = pure x := by intro _; rfl) (hs1 : ∀ env x, foldedSetIterable iter1 env x = pure x := by intro _ _; rfl)
    (he0 : starEach [.SetComp elt [⟨tg, iter, [], 0⟩, ⟨tg1, iter1, [], 0⟩] scope cpos] X.env = (false, eval (.SetComp elt [⟨tg, iter, [], 0⟩, ⟨tg1, iter1, [], 0⟩] scope cpos) X.env) :: starEach [] X.env := by rfl) :
    SE X W (.Call (.Name "sorted" p) [.SetComp elt [⟨tg, iter, [], 0⟩, ⟨tg1, iter1, [], 0⟩] scope cpos] [] pos) (eSc2 g fi g1 fi1 fe) :=
  PE.imp (pe_callB (cr_sortedM hc (by have := hr.un; omega)) hg0 hm (by decide +kernel) (pa_cons (pe_scM2 hc hN hi ok hin hg (fun _ _ _ _ _ => pts_yes) hi1 hg1 (fun _ _ _ _ _ => pts_yes) he hs hs1) pa_nil he0) (by decide) (by decide) he0 (by rfl)) fun _ _ _ => sc2_of hv hv1
end
def whl (t : Ft) (body : Fs) : Nat → Evm → Ms → Rs Fl
  | 0, _, _ => .st
  | n + 1, δ, S => (t δ S).bind fun b S => if b = true then (body δ S).bind fun r S => (match r with
      | .nx δ' => whl t body n δ' S
      | .ct δ' => whl t body n δ' S
      | .bk δ' => .ok (.nx δ') S
      | .rt v => .ok (.rt v) S) else .ok (.nx δ) S
def sWhl (n : Nat) (t : Ft) (body : Fs) : Fs := fun δ S => whl t body n δ S
section
variable {X : Cx} {W : WX} {c : Expr} {t : Ft} {body : Fs} {bd : List Stmt} {pos : Pos} {n : Nat}
theorem while_of {K : PySem.W.Frag} {D : Ends} {σ : L2.St} {H : Hp} (q : wS K W (sWhl n t body) D σ H) : tWhile (wT K W t) (wS K W body) D σ H := by
  obtain ⟨B, F, μ, S, δ, hs, ho⟩ := q
  refine ⟨fun m σ H => ∃ F μ S δ, StR K B F μ S δ σ H ∧ OS K W B D (whl t body m δ S), ⟨n, F, μ, S, δ, hs, ho⟩, ?_⟩
  rintro m σ1 H1 ⟨F1, μ1, S1, δ1, h1, o1⟩
  cases m with
  | zero => exact (show False from o1).elim
  | succ m =>
    refine wT_S h1 o1 fun b S2 F2 μ2 H2 t2 h2 o2 => ?_
    cases b with
    | false => rw [if_neg (by decide)] at o2 ⊢; exact o2 F2 μ2 σ1 H2 h2
    | true =>
      rw [if_pos rfl] at o2 ⊢
      refine ⟨fun σ H => ∃ F μ S δ, StR K B F μ S δ σ H ∧ OS K W B D (whl t body m δ S), fun σ' H' h => ⟨m, Nat.lt_succ_self m, h⟩, B, F2, μ2, S2, δ1, h2, ?_⟩
      cases e5 : body δ1 S2 with
      | st => rw [e5] at o2; exact o2
      | ex x S5 => rw [e5] at o2; exact o2
      | ok r S5 =>
        rw [e5] at o2
        cases r with
        | nx δ5 => exact fun F5 μ5 σ5 H5 h5 => ⟨F5, μ5, S5, δ5, h5, o2⟩
        | ct δ5 => exact fun F5 μ5 σ5 H5 h5 => ⟨F5, μ5, S5, δ5, h5, o2⟩
        | bk δ5 => exact o2
        | rt v => exact o2
theorem ss_while (hp : PassesOwn (model X.prog X.w) X.A X.env X.xe) (hc : ST X W c t) (hb : SL X W bd body) : SS X W (.While c bd [] pos) (sWhl n t body) := PS.imp (ps_while hp hc hb) fun _ _ _ => while_of
end
end Gt
set_option Elab.async false
set_option linter.all false
set_option maxRecDepth 100000
namespace Gt
open PySem PySem.Spec PyProof.Rows L2 RZ StX
def maxI : Int → List Int → Int
  | n, [] => n
  | n, m :: r => maxI (if n < m then m else n) r
def maxS : List D → Option Sl
  | [.lst xs] => match intsD xs with
    | some (n :: r) => some (.pl (.int (maxI n r)))
    | _ => none
  | _ => none
theorem maxI_ge : ∀ (r : List Int) (n : Int), n ≤ maxI n r ∧ (∀ m ∈ r, m ≤ maxI n r) ∧ (maxI n r = n ∨ maxI n r ∈ r)
  | [], n => ⟨Int.le_refl _, by simp, .inl rfl⟩
  | m :: r, n => by
    obtain ⟨h1, h2, h3⟩ := maxI_ge r (if n < m then m else n)
    have e : maxI n (m :: r) = maxI (if n < m then m else n) r := rfl
    rw [e]
    have k1 : n ≤ (if n < m then m else n) ∧ m ≤ (if n < m then m else n) := by split <;> omega
    refine ⟨Int.le_trans k1.1 h1, fun x hx => ?_, ?_⟩
    · rcases List.mem_cons.mp hx with rfl | hx
      · exact Int.le_trans k1.2 h1
      · exact h2 x hx
    · rcases h3 with h3 | h3
      · rw [h3]; split
        · exact .inr (by simp)
        · exact .inl rfl
      · exact .inr (List.mem_cons_of_mem _ h3)
section
variable {K : PySem.W.Frag}
theorem g_max : GC K (rMax K) maxS := by
  intro F μ S H vs ds s Q o r e k
  unfold maxS at e
  split at e
  · rename_i xs
    split at e
    · rename_i n rr q
      cases e
      obtain ⟨v, rfl, r1⟩ := rrs1 r
      obtain ⟨p, ws, rfl, h, ra⟩ := r1.lst o.sub
      have ew := intsD_vs q ra
      refine ⟨p, n :: rr, rfl, by rw [← ew]; exact SqL.of h, by simp, fun m hm hy => ?_⟩
      obtain ⟨h1, h2, h3⟩ := maxI_ge rr n
      have em : m = maxI n rr := by
        have a : maxI n rr ≤ m := hy _ (by rcases h3 with h3 | h3; rw [h3]; simp; exact List.mem_cons_of_mem _ h3)
        have b : m ≤ maxI n rr := by
          rcases List.mem_cons.mp hm with rfl | hm
          · exact h1
          · exact h2 m hm
        omega
      rw [em]
      exact end_pl o (fun _ _ => .int _) k
    · cases e
  · cases e
end
def prD : List D → Option (List (Int × Int))
  | [] => some []
  | .tup [.int a, .int b] :: r => if decide (0 ≤ a) && (decide (a < 64) && (decide (0 ≤ b) && decide (b < 64))) then (prD r).map ((a, b) :: ·) else none
  | _ :: _ => none
def prK (p : Int × Int) : Int := p.1 * 64 + p.2
def prT (p : Int × Int) : D := .tup [.int p.1, .int p.2]
def ddP : List (Int × Int) → List (Int × Int)
  | [] => []
  | k :: ks => if (ks.any fun x => decide (x = k)) then ddP ks else k :: ddP ks
def sortP (ps : List (Int × Int)) : List (Int × Int) := (ddP ps).mergeSort fun a b => decide (prK a ≤ prK b)
def sortSetP : List D → Option Sl
  | [.lst xs] => match prD xs with
    | some ps => if ps.length < 64 then some (.own ((sortP ps).map prT)) else none
    | none => none
  | _ => none
theorem mem_ddP : ∀ {ks : List (Int × Int)} {k : Int × Int}, k ∈ ddP ks ↔ k ∈ ks
  | [], _ => by simp [ddP]
  | x :: ks, k => by
    unfold ddP
    split
    · rename_i h
      rw [mem_ddP, List.mem_cons]
      refine ⟨.inr, fun z => ?_⟩
      rcases z with z | z
      · subst z
        obtain ⟨y, hy, e⟩ := List.any_eq_true.mp h
        rw [← of_decide_eq_true e]; exact hy
      · exact z
    · rw [List.mem_cons, List.mem_cons, mem_ddP]
theorem nodup_ddP : ∀ {ks : List (Int × Int)}, (ddP ks).Nodup
  | [] => List.nodup_nil
  | x :: ks => by
    unfold ddP
    split
    · exact nodup_ddP
    · rename_i h
      refine List.nodup_cons.mpr ⟨fun z => h ?_, nodup_ddP⟩
      exact List.any_eq_true.mpr ⟨x, mem_ddP.mp z, decide_eq_true rfl⟩
theorem mem_sortP {ks : List (Int × Int)} {k : Int × Int} : k ∈ sortP ks ↔ k ∈ ks := (List.mergeSort_perm _ _).mem_iff.trans mem_ddP
theorem nodup_sortP {ks : List (Int × Int)} : (sortP ks).Nodup := (List.mergeSort_perm _ _).nodup_iff.mpr nodup_ddP
theorem sorted_sortP (ks : List (Int × Int)) : (sortP ks).Pairwise fun a b => prK a ≤ prK b := by
  have := List.pairwise_mergeSort (le := fun a b : Int × Int => decide (prK a ≤ prK b)) (fun a b c h g => by simp at *; omega) (fun a b => by simp; omega) (ddP ks)
  exact this.imp fun h => by simpa using h
def okP (p : Int × Int) : Prop := 0 ≤ p.1 ∧ p.1 < 64 ∧ 0 ≤ p.2 ∧ p.2 < 64
theorem prK_inj {a b : Int × Int} (ha : okP a) (hb : okP b) (h : prK a = prK b) : a = b := by
  obtain ⟨x, y⟩ := a
  obtain ⟨z, w⟩ := b
  unfold prK okP at *
  simp only at *
  have : x = z := by omega
  subst this
  have : y = w := by omega
  rw [this]
theorem sortP_unique {xs ys : List (Int × Int)} (hx : ∀ p ∈ xs, okP p) (s1 : xs.Pairwise fun a b => prK a ≤ prK b) (s2 : ys.Pairwise fun a b => prK a ≤ prK b) (n1 : xs.Nodup) (n2 : ys.Nodup) (m : ∀ p, p ∈ xs ↔ p ∈ ys) : xs = ys :=
  List.Perm.eq_of_pairwise (le := fun a b => prK a ≤ prK b) (fun a b ha hb h1 h2 => prK_inj (hx a ha) (hx b ((m b).mpr hb)) (Int.le_antisymm h1 h2)) s1 s2 ((List.perm_ext_iff_of_nodup n1 n2).mpr m)
section
variable {K : PySem.W.Frag} {F H : Hp} {μ : List Addr}
theorem prD_vs : ∀ {ds : List D} {ps : List (Int × Int)} {vs : List V}, prD ds = some ps → RpA K F μ vs ds → (∀ p ∈ ps, okP p) ∧ ∃ ks : List (Addr × List Int), vs = ks.map (fun p => V.ref p.1) ∧ (∀ p ∈ ks, F p.1 = some (.tup (p.2.map V.int))) ∧ ks.map (·.2) = ps.map fun p => [p.1, p.2]
  | _, _, _, e, .nil => by cases e; exact ⟨by simp, [], rfl, by simp, rfl⟩
  | d :: ds, ps, _, e, .cons h r => by
    unfold prD at e
    split at e
    · rename_i heq
      cases heq
    · rename_i a b r' heq
      cases heq
      split at e
      · rename_i c
        simp only [Bool.and_eq_true, decide_eq_true_eq] at c
        cases q : prD ds with
        | none => rw [q] at e; cases e
        | some qs =>
          rw [q] at e
          cases e
          obtain ⟨h1, ks, e1, e2, e3⟩ := prD_vs q r
          obtain ⟨t, ws, rfl, ht, rt⟩ := h.tup_inv'
          have ews : ws = [V.int a, V.int b] := by
            cases rt with
            | cons x1 rt =>
              cases rt with
              | cons x2 rt =>
                cases rt
                cases x1
                cases x2
                rfl
          subst ews
          refine ⟨fun p hp => ?_, (t, [a, b]) :: ks, by rw [e1]; rfl, fun p hp => ?_, by rw [List.map_cons, e3]; rfl⟩
          · rcases List.mem_cons.mp hp with rfl | hp
            · exact ⟨c.1, c.2.1, c.2.2.1, c.2.2.2⟩
            · exact h1 p hp
          · rcases List.mem_cons.mp hp with rfl | hp
            · exact ht
            · exact e2 p hp
      · cases e
    · cases e
end
section
variable {X : Cx} {W : WX} {e : Expr} {f : Fe} {pos p p2 q2 : Pos} {k : Nat}
theorem se_sortSetP (hr : Room k X.A) (hc : X.calm = true) (hg : Gl X "sorted") (hm : X.mg "sorted" = none) (hg2 : Gl X "set") (hm2 : X.mg "set" = none) (ha : SA X W [e] (fA [f]))
    (he : starEach [.Call (.Name "set" p2) [e] [] q2] X.env = (false, eval (.Call (.Name "set" p2) [e] [] q2) X.env) :: starEach [] X.env := by rfl) (he2 : starEach [e] X.env = (false, eval e X.env) :: starEach [] X.env := by rfl) :
    SE X W (.Call (.Name "sorted" p) [.Call (.Name "set" p2) [e] [] q2] [] pos) (eCall sortSetP [f]) :=
  PE.imp (pe_callB (cr_sortedT hc) hg hm (by decide +kernel) (pa_cons (pe_callTy (cr_setOfT hc (by have := hr.un; omega)) hg2 hm2 (by decide +kernel) ha (by decide) (by decide) he2 (by rfl)) pa_nil he) (by decide) (by decide) he (by rfl)) fun σ H Q ⟨B, F, μ, S, δ, hs, ho⟩ => by
    refine wA_bind (G := fun F μ H r => OE X.K W F μ H σ δ Q r) hs (fun _ _ h => h) (fun h => h) (fun _ _ _ _ t h => OE.go t h) ho fun ss S1 F1 μ1 H1 vs t1 h1 r1 o1 => ?_
    cases e1 : toDs ss with
    | none => rw [e1] at o1; exact o1.elim
    | some ds =>
      rw [e1] at o1
      dsimp only at o1
      cases e2 : sortSetP ds with
      | none => rw [e2] at o1; exact o1.elim
      | some s =>
        rw [e2, lift_some] at o1
        have rr := toDs_rr h1 e1 r1
        unfold sortSetP at e2
        split at e2
        · rename_i xs
          obtain ⟨v, rfl, rv⟩ := rrs1 rr
          split at e2
          · rename_i ps eps
            split at e2
            · rename_i hlt
              cases e2
              obtain ⟨l, ws, rfl, hl, ra⟩ := rv.lst h1.ok.sub
              obtain ⟨okp', ks, rfl, hk, ek⟩ := prD_vs eps ra
              have hkH : ∀ p ∈ ks, SqT X.K H1 p.1 (p.2.map V.int) := fun p hp => SqT.of (h1.ok.sub _ _ (hk p hp))
              have lk : ks.length = ps.length := by have := congrArg List.length ek; simpa using this
              have at_ : ∀ q ∈ ks, ∃ pr ∈ ps, q.2 = [pr.1, pr.2] := fun q hq => by
                have : q.2 ∈ ks.map (·.2) := List.mem_map.mpr ⟨q, hq, rfl⟩
                rw [ek] at this
                obtain ⟨pr, h1, h2⟩ := List.mem_map.mp this
                exact ⟨pr, h1, h2.symm⟩
              refine ⟨l, ks, rfl, SqL.of hl, hkH, by omega, fun a L han hsub hall => ⟨a, L, 2, 64, rfl, upd_same, fun q hq => ?_, by decide, fun q hq => ?_, fun L' p pm nd _ pw hp => ?_⟩⟩
              · have t2 := Stp.new h1.ok (u := SetTO X.prog X.w a L) han
                exact sub_t (fun b u h => by rw [upd_ne (ne_of_none h han)]; exact h) (hkH q (hsub q hq))
              · obtain ⟨pr, hpr, eq⟩ := at_ q (hsub q hq)
                obtain ⟨b1, b2, b3, b4⟩ := okp' pr hpr
                rw [eq]
                exact ⟨rfl, fun m hm => by simp only [List.mem_cons, List.not_mem_nil, or_false] at hm; rcases hm with rfl | rfl <;> omega⟩
              · have t2 := Stp.new h1.ok (u := SetTO X.prog X.w a L) han
                have o2 := h1.ok.new (u := SetTO X.prog X.w a L) han
                have o3 := OE.go t2 o1
                have t3 := Stp.new o2 (u := .lst (L'.map fun q => V.ref q.1)) hp
                have o4 := o2.new (u := .lst (L'.map fun q => V.ref q.1)) hp
                let toP : Addr × List Int → Int × Int := fun q => (q.2.getD 0 0, q.2.getD 1 0)
                have e3 : ∀ q ∈ L', ∃ pr ∈ ps, q.2 = [pr.1, pr.2] ∧ toP q = pr ∧ q ∈ ks := fun q hq => by
                  have hk' := hsub q (pm.mem_iff.mp hq)
                  obtain ⟨pr, hpr, eq⟩ := at_ q hk'
                  exact ⟨pr, hpr, eq, by show (q.2.getD 0 0, q.2.getD 1 0) = pr; rw [eq]; rfl, hk'⟩
                have uq : L'.map toP = sortP ps := by
                  refine sortP_unique (fun pr hpr => ?_) ?_ (sorted_sortP ps) ?_ nodup_sortP fun pr => ?_
                  · obtain ⟨q, hq, rfl⟩ := List.mem_map.mp hpr
                    obtain ⟨pr, hpr, _, eq, _⟩ := e3 q hq
                    rw [eq]; exact okp' pr hpr
                  · refine List.pairwise_map.mpr (pw.imp_of_mem fun {a b} ha hb h => ?_)
                    obtain ⟨pa, _, ea, ea2, _⟩ := e3 a ha
                    obtain ⟨pb, _, eb, eb2, _⟩ := e3 b hb
                    rw [ea, eb, code_pair, code_pair] at h
                    rw [ea2, eb2]
                    exact h
                  · have nd2 := List.pairwise_map.mp nd
                    refine List.pairwise_map.mpr (nd2.imp_of_mem fun {a b} ha hb h e => h ?_)
                    obtain ⟨pa, _, ea, ea2, _⟩ := e3 a ha
                    obtain ⟨pb, _, eb, eb2, _⟩ := e3 b hb
                    rw [ea2, eb2] at e
                    rw [ea, eb, e]
                  · rw [mem_sortP]
                    constructor
                    · intro h
                      obtain ⟨q, hq, rfl⟩ := List.mem_map.mp h
                      obtain ⟨pr, hpr, _, eq, _⟩ := e3 q hq
                      rw [eq]; exact hpr
                    · intro h
                      have : [pr.1, pr.2] ∈ ks.map (·.2) := by rw [ek]; exact List.mem_map.mpr ⟨pr, h, rfl⟩
                      obtain ⟨q, hq, e⟩ := List.mem_map.mp this
                      have := hall q hq
                      obtain ⟨q', hq', e'⟩ := List.mem_map.mp this
                      have hq2 : q' ∈ L' := pm.mem_iff.mpr hq'
                      refine List.mem_map.mpr ⟨q', hq2, ?_⟩
                      show (q'.2.getD 0 0, q'.2.getD 1 0) = pr
                      rw [e', e]; rfl
                have rp : RpA X.K F1 μ1 (L'.map fun q => V.ref q.1) ((sortP ps).map prT) := by
                  rw [← uq, List.map_map]
                  have gen : ∀ L'' : List (Addr × List Int), (∀ q ∈ L'', q ∈ L') → RpA X.K F1 μ1 (L''.map fun q => V.ref q.1) (L''.map (prT ∘ toP)) := by
                    intro L''
                    induction L'' with
                    | nil => exact fun _ => .nil
                    | cons q L'' ih =>
                      intro hm
                      obtain ⟨pr, _, eq, eq2, hk'⟩ := e3 q (hm q (by simp))
                      refine .cons ?_ (ih fun z hz => hm z (by simp [hz]))
                      show Rp X.K F1 μ1 (V.ref q.1) (prT (toP q))
                      rw [eq2]
                      have := hk q hk'
                      rw [eq] at this
                      exact .tup this (.cons (.int _) (.cons (.int _) .nil))
                  exact gen L' fun _ h => h
                exact o3 F1 μ1 _ _ t3 o4 ⟨p, _, rfl, upd_same, rp, (o2.free hp).1, (o2.free hp).2, hp⟩
            · cases e2
          · cases e2
        · cases e2
end
theorem prop_insP {c k n : Nat} {g g1 : Tg} {fi1 : Fi} {fe : Fe} {rest : Fs} : ∀ (d : D) (S : Ms) (s : Sl) (S' : Ms), runB (sSeq (sAsg 1 (eSc2 g (iE (eFld c k (eV 0))) g1 fi1 fe)) rest) n [.pl d] S = .ok s S' → ∃ ds, d = .ins c ds := by
  intro d S s S' h
  cases d with
  | ins c' ds =>
    by_cases e : c' = c
    · exact ⟨ds, by rw [e]⟩
    · simp [runB, sSeq, sAsg, eSc2, iE, eFld, rd, rd1, eV, toD, Rs.bind, e] at h
  | _ => simp [runB, sSeq, sAsg, eSc2, iE, eFld, rd, rd1, eV, toD, Rs.bind] at h
end Gt
set_option Elab.async false
set_option linter.all false
set_option maxRecDepth 100000
namespace Gt
open PySem PySem.Spec PyProof.Rows L2 RZ StX
def eFnK (m : Nat) (h : Fn) (fs : List Fe) (fg : Fe) : Fe := fun δ S => (fA fs δ S).bind fun ss S => match plA ss with
  | some os => if os.length = m then (fA [fg] δ S).bind fun gs S => (match gs with
      | [g] => h (os.map .pl ++ [g]) S
      | _ => .st) else .st
  | none => .st
theorem RpA.ars {K : PySem.W.Frag} {F H : Hp} {μ : List Addr} : ∀ {vs : List V} {os : List D}, RpA K F μ vs os → ARs K F μ H vs (os.map .pl)
  | _, _, .nil => .nil
  | _, _, .cons h r => .cons h (RpA.ars r)
section
variable {X : Cx} {W : WX} {k m n : Nat} {f : Addr} {fd : FuncData} {ps : List Str} {h : Fn} {kn x : Str} {e ge : Expr} {es : List Expr} {fs : List Fe} {fg : Fe} {p pos kp : Pos}
theorem run_fnK {pins : List (Addr × Obj)} {σ : L2.St} {H : Hp} {s : Shared} {Q : VK} {us ws : List Value} {vs zs : List V} {sp : Sp} (F : FnOk X.prog X.w X.K X.mg X.base (L2.CX X.prog X.w) k f fd ps sp) (hr : Room k X.A) (hb : KBn X.K fd ps m [kn] (fun us ws => us ++ ws) (fun vs zs => vs ++ zs)) (tk : Takes X W)
    (I : Inv X pins σ H s) (r : Vals vs us) (rz : Vals zs ws) (l1 : vs.length = m) (l2 : zs.length = 1) (hq : sp (vs ++ zs) H Q (WE W σ)) : wpAny (model X.prog X.w) X.A (call (.ref f) us ([kn].zip ws)) (EP X pins σ Q) X.xe s := by
  have r2 := hb.rel r rz
  refine wpAny_call (codeAny_mono (F.run X.A X.stack s H ⟨us, [kn].zip ws⟩ (us ++ ws) (vs ++ zs) Q (WE W σ) hr I.env0 (hb.to s us ws I.kIn (r.length.symm.trans l1) (rz.length.symm.trans l2)) r2 hq) fun r s' hq => ?_)
  cases r with
  | error e => exact passAt tk σ pins H s e s' I hq
  | ok fl =>
    cases fl with
    | ret u => exact I.after hq
    | next => exact False.elim hq
    | brk => exact False.elim hq
    | cont => exact False.elim hq
theorem se_fnK (F : FnOk X.prog X.w X.K X.mg X.base (L2.CX X.prog X.w) k f fd ps (spF X.K n h)) (hr : Room k X.A) (hg : Gl X x) (hm : X.mg x = some (.ref f)) (hk : PySem.W.keepIn X.K (.ref f) = true) (hb : KBn X.K fd ps m [kn] (fun us ws => us ++ ws) (fun vs zs => vs ++ zs)) (hn : m + 1 = n) (tk : Takes X W) (ha : SA X W (e :: es) (fA fs)) (hge : SE X W ge fg)
    (hall : (backToKw pos (keywordEach [⟨some kn, ge, kp⟩] X.env)).all (·.1.isSome) = true := by rfl) (hks : (backToKw pos (keywordEach [⟨some kn, ge, kp⟩] X.env)).filterMap (·.1) = [kn] := by rfl) (hdb : (x == ("__debug__" : Str)) = false := by decide)
    (he : starEach (e :: es) X.env = (false, eval e X.env) :: starEach es X.env := by rfl) (hpl : ((backTo pos (starEach (e :: es) X.env)).any (·.1) || (backToKw pos (keywordEach [⟨some kn, ge, kp⟩] X.env)).any (·.1.isNone)) = false := by rfl) :
    SE X W (.Call (.Name x p) (e :: es) [⟨some kn, ge, kp⟩] pos) (eFnK m h fs fg) := by
  refine ⟨fun pins s σ H Q I hw => ?_⟩
  obtain ⟨B, F0, μ, S, δ, hs, ho⟩ := hw
  refine wpAny_Call_Name_kw (ld_glob I hg hm ?_ hdb)
  refine PySem.W.callWith_KW (h₀ := X.base) I.ok.mod.kin hk hall (thn (ha.run pos pins s σ H (fun vs H1 => ∃ F1 μ1 S1 os, StR X.K B F1 μ1 S1 δ σ H1 ∧ RpA X.K F1 μ1 vs os ∧ os.length = m ∧ OE X.K W F1 μ1 H1 σ δ Q ((fA [fg] δ S1).bind fun gs S => (match gs with
      | [g] => h (os.map .pl ++ [g]) S
      | _ => .st))) I ?_) fun us s1 ⟨vs, H1, I1, r, F1, μ1, S1, os, h1, r1, hz, o1⟩ => ?_) hpl he
  · refine wA_bind (G := fun F μ H r => OE X.K W F μ H σ δ Q r) hs (fun _ _ h => h) (fun h => h) (fun _ _ _ _ t h => OE.go t h) ho fun ss S1 F1 μ1 H1 vs t1 h1 r1 o1 => ?_
    split at o1
    · rename_i os q
      split at o1
      · rename_i hz
        exact ⟨F1, μ1, S1, os, h1, plA_rp q r1, hz, o1⟩
      · exact o1.elim
    · exact o1.elim
  · refine thn ((pk_cons hge pk_nil).run pos pins s1 σ H1 (fun zs H2 => ∃ F2 μ2 S2 gv g, zs = [gv] ∧ StR X.K B F2 μ2 S2 δ σ H2 ∧ AR X.K F2 μ2 H2 gv g ∧ Stp F1 μ1 H1 F2 μ2 H2 ∧ OE X.K W F2 μ2 H2 σ δ Q (h (os.map .pl ++ [g]) S2)) I1 (kw_of ?_)) fun ws s2 ⟨zs, H2, I2, rz, F2, μ2, S2, gv, g, ez, h2, ag, t2, o2⟩ => ?_
    · refine wA_bind (G := fun F μ H r => OE X.K W F μ H σ δ Q r) h1 (fun _ _ h => h) (fun h => h) (fun _ _ _ _ t h => OE.go t h) o1 fun ss S2 F2 μ2 H2 vs2 t2 h2 r2 o2 => ?_
      split at o2
      · cases VAs.ar h2 r2 with
        | cons a rest =>
          cases rest
          exact ⟨F2, μ2, S2, _, _, rfl, h2, a, t2, o2⟩
      · exact o2.elim
    · subst ez
      refine ⟨I2.kIn, ?_⟩
      rw [hks]
      have lv : vs.length = m := by rw [← hz]; exact r1.len
      exact run_fnK F hr hb tk I2 r rz lv rfl ⟨F2, μ2, S2, os.map .pl ++ [g], by rw [List.length_append, List.length_map, hz]; exact hn, h2.ok, paired_app (RpA.ars (r1.mono t2.fr t2.mu)) (.cons ag .nil), OF.call (vs := vs ++ [gv]) (as := os.map .pl ++ [g]) h2 o2⟩
end
end Gt
set_option Elab.async false
set_option linter.all false
set_option maxRecDepth 100000
namespace Gt
open PySem PySem.Spec PyProof.Rows L2 RZ StX
def minIx (ds : List PyData) : Nat := argBest (fun i j => PySem.W.dataLt (ds.getD i .none) (ds.getD j .none)) (ds.length - 1)
def okMin (ds : List D) : Bool := decide (ds.length ≤ cap) && (decide (0 < ds.length) && (ds.all smallD && (ds.all (fun a => !isNon a) && ds.all fun a => ds.all fun b => likeD a b)))
def minS : List D → Option Sl
  | [.lst ds] => if okMin ds = true then (ds[minIx (ds.map toPy)]?).map .pl else none
  | _ => none
def rMinD (K : PySem.W.Frag) : List V → Hp → VK → Prop := fun xs H Q => ∃ (a : Addr) (bs : List (V × D)) (v : V), xs = [.ref a] ∧ SqL K H a (bs.map (·.1)) ∧ (∀ b, b ∈ bs → Dp K H b.1 (encP b)) ∧ PySem.W.AlikeAll (bs.map encP) ∧
  (∀ b, b ∈ bs → (encP b).depth ≤ 60) ∧ 0 < bs.length ∧ (bs.map (·.1))[minIx (bs.map encP)]? = some v ∧ Q v H
section
variable {X : Cx} {pins : List (Addr × Obj)} {σ : L2.St} {H : Hp} {s : Shared}
theorem reads_all (I : Inv X pins σ H s) : ∀ {bs : List (V × D)} {us : List Value}, Vals (bs.map (·.1)) us → (∀ b, b ∈ bs → Dp X.K H b.1 (encP b)) → ∃ as, ReadsAll s.heap us (bs.map encP) as
  | [], _, r, _ => by cases r; exact ⟨_, .nil⟩
  | b :: bs, _, r, h => by
    cases r with
    | cons r1 r2 =>
      obtain ⟨as, q⟩ := Dp.reads I (encP b) b.1 _ (h b (by simp)) r1
      obtain ⟨cs, q2⟩ := reads_all I r2 fun x hx => h x (by simp [hx])
      exact ⟨_, .cons q q2⟩
theorem depth_all {xs : List PyData} {n : Nat} (h : ∀ x ∈ xs, x.depth ≤ n) : PyData.depthAll xs ≤ n := by
  induction xs with
  | nil => simp [PyData.depthAll]
  | cons x xs ih =>
    rw [PyData.depthAll]
    have := h x (by simp)
    have := ih fun y hy => h y (by simp [hy])
    omega
end
theorem cr_minD {X : Cx} {k : Nat} (hr : Room k X.A) (hc : X.calm = true) : CallR X (.builtin "min") (rMinD X.K) := by
  intro pins s σ H vs us Q I r h
  obtain ⟨a, bs, v, rfl, hs, hd, ha, hdep, hpos, hv, q⟩ := h
  obtain ⟨its, rv, hl, _⟩ := I.list hs
  rw [Vals.ref1 r]
  obtain ⟨as, hra⟩ := reads_all I rv hd
  have hu : X.A.units + 1 + PyData.depthAll (bs.map encP) < cLine := by
    have h1 := room65 hr
    have h2 := depth_all (xs := bs.map encP) (n := 60) fun x hx => by
      obtain ⟨b, hb, rfl⟩ := List.mem_map.mp hx
      exact hdep b hb
    omega
  have ln : its.toArray.size = bs.length := by
    have := rv.length
    rw [List.length_map] at this
    rw [this]; simp
  refine PySem.call_min_walkH (PySem.W.iter_listW (A := X.A.in1) (I.ok.hd hc) hl.isList fun s₂ e W st hfp hw hk => ?_)
  refine ⟨_, _, _, _, _, _, _, s.heap, _, rfl, W, st, hfp, by rw [ln]; exact hpos, hw, hk, PySem.W.cmpIn_lt (A := X.A.in1) (xs := bs.map encP) (as := as) (by simpa using hra) ha (by show X.A.units + 1 + _ < _; exact hu), fun u s' hP m => ?_⟩
  obtain ⟨h', tk, rfl, hk'⟩ := PySem.W.moved_old e rfl m
  have e1 : its.toArray.size - 1 = (bs.map encP).length - 1 := by rw [ln, List.length_map]
  rw [e1] at hP
  obtain ⟨u', hu', ru⟩ := rv.get hv
  have hP' : its[minIx (bs.map encP)]? = some u := by
    have := hP
    rw [List.getElem?_toArray] at this
    exact this
  rw [hu'] at hP'
  cases hP'
  exact ⟨v, H, I.kept hk', ru, q⟩
theorem g_min {K : PySem.W.Frag} : GC K (rMinD K) minS := by
  intro F μ S H vs ds s Q o r e k
  unfold minS at e
  split at e
  · rename_i xs
    split at e
    · rename_i c
      cases q : xs[minIx (xs.map toPy)]? with
      | none => rw [q] at e; cases e
      | some d =>
        rw [q] at e
        cases e
        unfold okMin at c
        simp only [Bool.and_eq_true, decide_eq_true_eq, List.all_eq_true, Bool.not_eq_true'] at c
        obtain ⟨c1, c2, c3, c4, c5⟩ := c
        obtain ⟨v, rfl, r1⟩ := rrs1 r
        obtain ⟨p, ws, rfl, h, rr⟩ := r1.lst o.sub
        obtain ⟨z1, z2, z3⟩ := zip_fst rr
        have ez : (ws.zip xs).map encP = xs.map toPy := by
          have : (ws.zip xs).map encP = ((ws.zip xs).map (·.2)).map toPy := by rw [List.map_map]; rfl
          rw [this, z2]
        obtain ⟨w, hw, rw_⟩ := rr.getD q
        have lz : (ws.zip xs).length = xs.length := by
          have := congrArg List.length z2
          rwa [List.length_map] at this
        refine ⟨p, ws.zip xs, w, rfl, by rw [z1]; exact SqL.of h, fun b hb => ((z3 b hb).1.mono o.sub (.refl μ)).dp (smallD_iff (c3 _ (z3 b hb).2)).1, ⟨?_, ?_⟩, fun b hb => (smallD_iff (c3 _ (z3 b hb).2)).2, by rw [lz]; exact c2, by rw [z1, ez]; exact hw, k F μ H w (.refl _ _ _) o rw_⟩
        · rw [ez]
          intro d1 h1 d2 h2
          obtain ⟨x1, m1, rfl⟩ := List.mem_map.mp h1
          obtain ⟨x2, m2, rfl⟩ := List.mem_map.mp h2
          exact c5 x1 m1 x2 m2
        · rw [ez]
          intro d1 h1
          obtain ⟨x1, m1, rfl⟩ := List.mem_map.mp h1
          have := c4 x1 m1
          have pd := (smallD_iff (c3 x1 m1)).1
          cases x1 <;> simp [isNon, toPy, plainD] at this pd ⊢
    · cases e
  · cases e
end Gt
set_option Elab.async false
set_option linter.all false
set_option maxRecDepth 100000
namespace Gt
open PySem PySem.Spec PyProof.Rows L2 RZ StX
def keyT : D → Option (List Key)
  | .tup ds => keysD ds
  | _ => none
def findT (k : List Key) : List D → List D → Option D
  | y :: ks, v :: vs => if keyT y = some k then some v else findT k ks vs
  | _, _ => none
theorem keysD_inv : ∀ {ds : List D} {ks : List Key}, keysD ds = some ks → ds = ks.map keyD
  | [], ks, e => by simp [keysD] at e; subst e; rfl
  | d :: ds, ks, e => by
    cases d <;> simp only [keysD, reduceCtorEq] at e
    all_goals
      cases q : keysD ds with
      | none => rw [q] at e; cases e
      | some r =>
        rw [q] at e
        cases e
        rw [keysD_inv q]; rfl
section
variable {K : PySem.W.Frag} {F : Hp} {μ : List Addr}
theorem rpA_keys : ∀ {ks : List Key} {vs : List V}, RpA K F μ vs (ks.map keyD) → vs = ks.map kV
  | [], _, r => by cases r; rfl
  | k :: ks, _, r => by
    cases r with
    | cons h t => rw [List.map_cons, rpA_keys t, h.key_inv]
theorem key_at {v : V} {y : D} {k : List Key} (h : Rp K F μ v y) (e : keyT y = some k) : ∃ b, v = .ref b ∧ F b = some (.tup (k.map kV)) := by
  cases y <;> simp only [keyT, reduceCtorEq] at e
  case tup ds =>
    obtain ⟨a, vs, rfl, hF, r⟩ := h.tup_inv'
    rw [keysD_inv e] at r
    rw [rpA_keys r] at hF
    exact ⟨a, rfl, hF⟩
theorem key_D (k : List Key) : keyT (.tup (k.map keyD)) = some k := keysD_keys k
theorem find_at {k : List Key} : ∀ {kvs : List (List Key × V)} {ds : List D}, RpA K F μ (kvs.map (·.2)) ds → (∀ d, findT k (kvs.map fun p => D.tup (p.1.map keyD)) ds = some d → ∃ v, valV kvs k = some v ∧ Rp K F μ v d) ∧ (findT k (kvs.map fun p => D.tup (p.1.map keyD)) ds = none → valV kvs k = none)
  | [], _, r => by cases r; exact ⟨fun d e => by simp [findT] at e, fun _ => rfl⟩
  | p :: kvs, _, r => by
    cases r with
    | cons h t =>
      obtain ⟨i1, i2⟩ := find_at (k := k) t
      by_cases c : p.1 = k
      · refine ⟨fun d e => ?_, fun e => ?_⟩
        · rw [List.map_cons, findT, key_D, if_pos (by rw [c])] at e
          cases e
          exact ⟨p.2, valV_pos c, h⟩
        · rw [List.map_cons, findT, key_D, if_pos (by rw [c])] at e
          cases e
      · refine ⟨fun d e => ?_, fun e => ?_⟩
        · rw [List.map_cons, findT, key_D, if_neg (fun z => c (Option.some.inj z))] at e
          obtain ⟨v, a, b⟩ := i1 d e
          exact ⟨v, by rw [valV_neg c]; exact a, b⟩
        · rw [List.map_cons, findT, key_D, if_neg (fun z => c (Option.some.inj z))] at e
          rw [valV_neg c]; exact i2 e
end
def eDnew : Fe := fun _ S => .ok (.od [.non] []) S
section
variable {X : Cx} {W : WX} {pos : Pos}
theorem se_dnew : SE X W (.Dict [] [] pos) eDnew := PE.imp pe_dnewT fun σ H Q ⟨B, F, μ, S, δ, hs, ho⟩ p hp =>
  ho F μ _ _ (Stp.new hs.ok (u := .dT []) hp) (hs.ok.new (u := .dT []) hp) ⟨p, rfl, (hs.ok.free hp).1, (hs.ok.free hp).2, hp, .inr ⟨[], upd_same, rfl, .nil⟩⟩
end
def iK (i : Nat) : Fi := fun δ S => match δ[i]? with
  | some (.oin _ [.dct (.non :: ks) _]) => .ok ks S
  | _ => .st
theorem keys_rp {K : PySem.W.Frag} {F : Hp} {μ : List Addr} : ∀ k : List Key, RpA K F μ (k.map kV) (k.map keyD)
  | [] => .nil
  | .inl i :: k => .cons (.int i) (keys_rp k)
  | .inr x :: k => .cons (.str x) (keys_rp k)
theorem walk_kt {K : PySem.W.Frag} {p : Addr} {od : Obj} {kvs : List (List Key × V)} : Walk K (Itkt p od kvs) (kvs.map fun q => D.tup (q.1.map keyD)) fun F μ H => H p = some (.frz od (.dT kvs)) where
  go := fun {F μ S H k d} o h e => by
    rw [List.getElem?_map] at e
    cases q : kvs[k]? with
    | none => rw [q] at e; cases e
    | some kv =>
      rw [q] at e
      cases e
      refine ⟨⟨h, (List.getElem?_eq_some_iff.mp q).1⟩, fun x H' ⟨e1, kk, v, b, e2, e3, e4⟩ => ?_⟩
      subst e1 e3
      rw [q] at e2
      cases e2
      have nM : b ∉ μ := fun m => by
        obtain ⟨n, hn⟩ := List.getElem?_of_mem m
        have hl : n < S.length := by rw [o.ln]; exact (List.getElem?_eq_some_iff.mp hn).1
        have r := o.mr n b _ hn (List.getElem?_eq_getElem hl)
        cases z : S[n] with
        | lst ds =>
          rw [z] at r
          obtain ⟨vs, h1, _⟩ := r
          rw [e4] at h1; cases h1
        | ins c ds =>
          rw [z] at r
          obtain ⟨dx, fs, h1, _⟩ := r
          rw [e4] at h1; cases h1
      cases qF : F b with
      | some u =>
        have := o.sub b u qF
        rw [e4] at this
        cases this
        exact ⟨F, .refl _ _ _, o, .tup qF (keys_rp kk)⟩
      | none =>
        refine ⟨upd F b (.tup (kk.map kV)), ⟨Sub.new qF, .refl μ, fun _ _ z _ => z, fun _ z => z, fun a u z => ?_, fun _ z => .inl z⟩, ⟨fun a u z => ?_, fun a m => ?_, o.nd, o.ln, fun n a x h1 h2 => (o.mr n a x h1 h2).mono (Sub.new qF) (.refl _)⟩, .tup upd_same (keys_rp kk)⟩
        · by_cases c : a = b
          · subst c; exact .inr (.inr ⟨nM, _, e4⟩)
          · rw [upd_ne c] at z; exact .inl z
        · by_cases c : a = b
          · subst c; rw [upd_same] at z; cases z; exact e4
          · rw [upd_ne c] at z; exact o.sub a u z
        · have c : a ≠ b := fun z => nM (z ▸ m)
          rw [upd_ne c]; exact o.fm a m
  stop := fun {F μ S H k} o h hk => ⟨h, by simpa using hk⟩
section
variable {X : Cx} {W : WX} {tg : Expr} {pos : Pos}
theorem si_k {i : Nat} {x : Str} {vs : List Nat} (hi : i ∉ vs) (h : PE X (.Name x pos) (tVar i)) : SI X W (some vs) tg (.Name x pos) (iK i) := PI.imp (pi_keys h) fun σ H R ⟨B, F, μ, S, δ, hs, ho⟩ => by
  unfold iK at ho
  split at ho
  · rename_i ks ws e
    have q := hs.sl i _ e
    have hl := hs.at e
    obtain ⟨p, od, kvs, z, hp, nF, nM, ks', ws', e1, e2, r, b1, b2⟩ := q
    cases e1
    rw [List.cons.injEq] at e2
    obtain ⟨_, rfl⟩ := e2
    have za : σ[i]? = some (some (.ref p)) := by
      rw [List.getElem?_eq_getElem hl] at z ⊢
      exact congrArg some z
    refine ⟨_, za, p, od, rfl, .inr ⟨kvs, hp, ho F μ H _ _ (.refl _ _ _) hs.ok walk_kt fun A' α' F2 μ2 S2 δ2 σ2 H2 h2 s mm zz => ?_⟩⟩
    exact h2.st.kp _ _ b1 b2
  · exact ho.elim
end
def ownR : Rs Sl → Rs Sl
  | .ok (.own ys) S => .ok (.own ys) S
  | _ => .st
def eCompD (i : Nat) (g : Tg) (t : Ft) (fe : Fe) : Fe := fun δ S => match δ[i]? with
  | some (.od (.non :: ks) vs) => ownR (eComp g (iK i) t fe ((lockE δ).set i (.oin 0 [.dct (.non :: ks) vs])) S)
  | _ => .st
section
variable {K : PySem.W.Frag} {F H F' H' : Hp} {μ μ' : List Addr} {S : Ms} {p : Addr} {od : Obj} {u : HO}
theorem unlock (hp : H p = some u) (nF : F p = none) (nM : p ∉ μ) (t : Stp F μ (upd H p (.frz od u)) F' μ' H') (o : Ok K F' μ' S H') (hu : ∀ vs, u ≠ .tup vs) : H' p = some (.frz od u) ∧ Stp F μ H F' μ' (upd H' p u) ∧ Ok K F' μ' S (upd H' p u) ∧ F' p = none ∧ p ∉ μ' := by
  have k1 := t.kp p _ upd_same nM
  have nF' : F' p = none := t.noF upd_same nF
  have nM' : p ∉ μ' := t.noM upd_same nM
  refine ⟨k1, ⟨t.fr, t.mu, fun a x e m => ?_, fun a e => ?_, fun a x e => ?_, fun a m => ?_⟩, ⟨fun a x e => ?_, o.fm, o.nd, o.ln, fun n a x e1 e2 => ?_⟩, nF', nM'⟩
  · by_cases c : a = p
    · subst c; rw [hp] at e; cases e; exact upd_same
    · rw [upd_ne c]; exact t.kp a x (by rw [upd_ne c]; exact e) m
  · by_cases c : a = p
    · subst c; rw [upd_same] at e; cases e
    · rw [upd_ne c] at e
      have := t.tr a e
      rwa [upd_ne c] at this
  · by_cases c : a = p
    · subst c; rw [nF'] at e; cases e
    · have := t.nf a x e
      rwa [upd_ne c] at this
  · by_cases c : a = p
    · subst c; exact absurd m nM'
    · have := t.nm a m
      rwa [upd_ne c] at this
  · have c : a ≠ p := fun z => by subst z; rw [nF'] at e; cases e
    rw [upd_ne c]; exact o.sub a x e
  · have c : a ≠ p := fun z => by subst z; exact nM' (List.mem_of_getElem? e1)
    rw [upd_ne c]; exact o.mr n a x e1 e2
end
section
variable {K : PySem.W.Frag} {B : Bs} {F H : Hp} {μ : List Addr} {S : Ms} {δ : Evm} {σ : L2.St}
theorem od_at (hs : StR K B F μ S δ σ H) {i : Nat} {ks vs : List D} (e : δ[i]? = some (.od (.non :: ks) vs)) : ∃ p kvs, σ[i]? = some (some (.ref p)) ∧ F p = none ∧ p ∉ μ ∧ B.H p = none ∧ H p = some (.dT kvs) ∧ ks = kvs.map (fun q => D.tup (q.1.map keyD)) ∧ RpA K F μ (kvs.map (·.2)) vs := by
  obtain ⟨p, z, nF, nM, hb, q⟩ := hs.sl i _ e
  rcases q with ⟨kvs, hp, e1, _⟩ | ⟨kvs, hp, e1, r⟩
  · exfalso
    cases kvs with
    | nil => cases e1
    | cons kv kvs =>
      rw [List.map_cons, List.cons.injEq] at e1
      have := e1.1
      cases h : kv.1 <;> rw [h] at this <;> cases this
  · exact ⟨p, kvs, hs.addr e z, nF, nM, hb, hp, (List.cons.inj e1).2, r⟩
end
section
variable {K : PySem.W.Frag} {B : Bs} {F H : Hp} {μ : List Addr} {S : Ms} {δ : Evm} {σ : L2.St}
theorem StR.lockD (hs : StR K B F μ S δ σ H) {i : Nat} {ks vs : List D} {p : Addr} {kvs : List (List Key × V)} (od : Obj) (e : δ[i]? = some (.od (.non :: ks) vs)) (z : σ[i]? = some (some (.ref p))) (nF : F p = none) (nM : p ∉ μ) (hp : H p = some (.dT kvs)) (ek : ks = kvs.map (fun q => D.tup (q.1.map keyD))) (r : RpA K F μ (kvs.map (·.2)) vs) :
    StR K (lockB F μ (upd H p (.frz od (.dT kvs))) δ σ) F μ S ((lockE δ).set i (.oin 0 [.dct (.non :: ks) vs])) σ (upd H p (.frz od (.dT kvs))) := by
  have hi : i < (lockE δ).length := by rw [lockE, List.length_map]; exact (List.getElem?_eq_some_iff.mp e).1
  have sub1 : Sub F (upd H p (.frz od (.dT kvs))) := fun a x q => by
    have c : a ≠ p := fun z => by subst z; rw [nF] at q; cases q
    rw [upd_ne c]; exact hs.ok.sub a x q
  refine ⟨⟨sub1, hs.ok.fm, hs.ok.nd, hs.ok.ln, fun n a x e1 e2 => ?_⟩, .refl _ _ _, by rw [List.length_set, lockE, List.length_map]; exact hs.len, fun j t ej => ?_, fun j k t u q e1 e2 o1 o2 z1 z2 => ?_, .refl _, .refl _, fun j q ds h1 h2 => ?_⟩
  · have c : a ≠ p := fun z => by subst z; exact nM (List.mem_of_getElem? e1)
    rw [upd_ne c]; exact hs.ok.mr n a x e1 e2
  · by_cases c : j = i
    · subst c
      rw [List.getElem?_set_self hi] at ej
      cases ej
      exact ⟨p, od, kvs, by rw [z]; rfl, upd_same, nF, nM, _, _, rfl, by rw [ek], r, upd_same, nM⟩
    · rw [List.getElem?_set_ne (Ne.symm c), lockE_get] at ej
      cases q : δ[j]? with
      | none => rw [q] at ej; cases ej
      | some s =>
        rw [q] at ej
        cases ej
        have old := hs.sl j s q
        cases s with
        | no => trivial
        | pl d => exact old
        | own ds =>
          obtain ⟨a, ws, z1, hp1, r1, nF1, nM1, hb1⟩ := old
          have ne : a ≠ p := fun w => by subst w; rw [hp] at hp1; cases hp1
          exact ⟨a, ws, z1, by show upd H p _ a = _; rw [upd_ne ne]; exact hp1, r1, nM1⟩
        | bor ds =>
          obtain ⟨a, ws, z1, hp1, r1, m1⟩ := old
          have hp2 := hs.st.kp _ _ hp1 m1
          have ne : a ≠ p := fun w => by subst w; rw [hp] at hp2; cases hp2
          exact ⟨a, ws, z1, by show upd H p _ a = _; rw [upd_ne ne]; exact hp2, r1, fun hm => (hs.st.nm _ hm).elim m1 fun z => by rw [hp1] at z; cases z⟩
        | od _ _ => trivial
        | oin _ _ => trivial
  · have ow : ∀ {j : Nat} {t : Sl}, ((lockE δ).set i (.oin 0 [.dct (.non :: ks) vs]))[j]? = some t → isOwn t = true → j = i := fun {j t} ej ot => by
      by_cases c : j = i
      · exact c
      · rw [List.getElem?_set_ne (Ne.symm c), lockE_get] at ej
        cases q : δ[j]? with
        | none => rw [q] at ej; cases ej
        | some s =>
          rw [q] at ej
          cases ej
          cases s <;> cases ot
    rw [ow e1 o1, ow e2 o2]
  · have c : j ≠ i := fun c => by subst c; rw [List.getElem?_set_self hi] at h2; cases h2
    have h1' : pnOf δ σ j = some q := h1
    unfold pnOf at h1'
    split at h1'
    · split at h1'
      · rename_i e; cases h1'; exact e
      · cases h1'
    · split at h1'
      · rename_i e; cases h1'; exact e
      · cases h1'
    · cases h1'
end
section
variable {X : Cx} {W : WX} {elt iter tg : Expr} {ifs : List Expr} {scope : Scope} {own : List (Str × Nat)} {i : Nat} {t : Ft} {fe : Fe} {g : Tg} {pos : Pos}
theorem se_compD (hi : SE X W (.ListComp elt [⟨tg, iter, ifs, 0⟩] scope pos) (eComp g (iK i) t fe)) : SE X W (.ListComp elt [⟨tg, iter, ifs, 0⟩] scope pos) (eCompD i g t fe) := PE.imp (pe_lock hi) fun σ H Q ⟨B, F, μ, S, δ, hs, ho⟩ => by
  unfold eCompD at ho
  split at ho
  · rename_i ks vs e
    obtain ⟨p, kvs, za, nF, nM, hb, hp, e1, r⟩ := od_at hs e
    refine ⟨p, .dT kvs, hp, trivial, fun od => ⟨_, F, μ, S, (lockE δ).set i (.oin 0 [.dct (.non :: ks) vs]), hs.lockD od e za nF nM hp e1 r, ?_⟩⟩
    cases c : eComp g (iK i) t fe ((lockE δ).set i (.oin 0 [.dct (.non :: ks) vs])) S with
    | st => rw [c] at ho; exact ho.elim
    | ex x S1 => rw [c] at ho; exact ho.elim
    | ok s S1 =>
      rw [c] at ho
      cases s with
      | own ys =>
        intro F' μ' H' v t' o' ⟨p2, ws, ev, h2, r2, n2, m2, u2⟩
        obtain ⟨k1, k2, k3, k4, k5⟩ := unlock hp nF nM t' o' (fun _ z => by cases z)
        refine ⟨k1, ho F' μ' _ v k2 k3 ?_⟩
        have c2 : p2 ≠ p := fun z => by subst z; rw [upd_same] at u2; cases u2
        rw [upd_ne c2] at u2
        exact ⟨p2, ws, ev, by rw [upd_ne c2]; exact h2, r2, n2, m2, u2⟩
      | _ => exact ho.elim
  · exact ho.elim
end
def eDk (i : Nat) (fb : Fe) : Fe := fun δ S => match δ[i]? with
  | some (.oin _ [.dct (.non :: ks) vs]) => (rd fb δ S).bind fun y S => (match keyT y with
    | some k => lift ((findT k ks vs).map .pl) S
    | none => .st)
  | some (.od (.non :: ks) vs) => (rd fb δ S).bind fun y S => (match keyT y with
    | some k => lift ((findT k ks vs).map .pl) S
    | none => .st)
  | _ => .st
def eGet (i : Nat) (fb : Fe) : Fe := fun δ S => match δ[i]? with
  | some (.od (.non :: ks) vs) => (rd fb δ S).bind fun y S => (match keyT y with
    | some k => .ok (.pl ((findT k ks vs).getD .non)) S
    | none => .st)
  | _ => .st
def sDPutT (i : Nat) (fk fv : Fe) : Fs := fun δ S => (fv δ S).bind fun a S => match toP a with
  | some d => (match δ[i]? with
    | some (.od (.non :: ks) vs) => (rd fk δ S).bind fun y S => (match keyT y with
      | some k => if ((findT k ks vs).isNone && decide (ks.length < 1000)) = true then .ok (.nx (δ.set i (.od (.non :: (ks ++ [y])) (vs ++ [d])))) S else .st
      | none => .st)
    | _ => .st)
  | none => .st
section
variable {K : PySem.W.Frag} {B : Bs} {F H : Hp} {μ : List Addr} {S : Ms} {δ : Evm} {σ : L2.St}
theorem oin_at (hs : StR K B F μ S δ σ H) {i c : Nat} {ks vs : List D} (e : δ[i]? = some (.oin c [.dct (.non :: ks) vs])) : ∃ p kvs od, σ[i]? = some (some (.ref p)) ∧ H p = some (.frz od (.dT kvs)) ∧ ks = kvs.map (fun q => D.tup (q.1.map keyD)) ∧ RpA K F μ (kvs.map (·.2)) vs := by
  obtain ⟨p, od, kvs, z, hp, nF, nM, ks', ws', e1, e2, r, _⟩ := hs.sl i _ e
  cases e1
  exact ⟨p, kvs, od, hs.addr e z, hp, (List.cons.inj e2).2, r⟩
theorem vd_key {v : V} {y : D} {k : List Key} (h : VD K σ δ F μ v y) (e : keyT y = some k) : ∃ b, v = .ref b ∧ F b = some (.tup (k.map kV)) := by
  rcases h with h | ⟨ds, i, rfl, _⟩
  · exact key_at h e
  · cases e
end
section
variable {X : Cx} {W : WX} {b v : Expr} {fb fv : Fe} {i k : Nat} {x : Str} {pos p1 p2 apos : Pos}
theorem se_dk (hr : Room k X.A) (h : PE X (.Name x p1) (tVar i)) (hb : SE X W b fb) (hn : NoSl b) : SE X W (.Subscript (.Name x p1) b pos) (eDk i fb) := PE.imp (pe_dget (by have := hr.un; omega) h hb hn) fun σ H Q ⟨B, F, μ, S, δ, hs, ho⟩ => by
  unfold eDk at ho
  split at ho
  · rename_i c ks vs e
    obtain ⟨p, kvs, od, za, hp, rfl, r⟩ := oin_at hs e
    refine ⟨_, za, wE_rd hs ho fun y S1 F1 μ1 H1 w t1 h1 v1 o1 => ?_⟩
    split at o1
    · rename_i kk ek
      obtain ⟨p', kvs', od', za', hp', e', r'⟩ := oin_at h1 e
      rw [za] at za'
      cases za'
      obtain ⟨bb, rfl, hB⟩ := vd_key v1 ek
      cases q : findT kk (kvs.map fun q => D.tup (q.1.map keyD)) vs with
      | none => rw [q] at o1; exact o1.elim
      | some d =>
        rw [q] at o1
        rw [e'] at q
        obtain ⟨u, hu, ru⟩ := (find_at (k := kk) r').1 d q
        exact ⟨p, u, rfl, .inr ⟨kvs', kk, bb, .inr ⟨od', hp'⟩, rfl, h1.ok.sub _ _ hB, hu.symm⟩, o1.same h1.ok ru⟩
    · exact o1.elim
  · rename_i ks vs e
    obtain ⟨p, kvs, za, nF, nM, hb', hp, rfl, r⟩ := od_at hs e
    refine ⟨_, za, wE_rd hs ho fun y S1 F1 μ1 H1 w t1 h1 v1 o1 => ?_⟩
    split at o1
    · rename_i kk ek
      obtain ⟨p', kvs', za', _, _, _, hp', e', r'⟩ := od_at h1 e
      rw [za] at za'
      cases za'
      obtain ⟨bb, rfl, hB⟩ := vd_key v1 ek
      cases q : findT kk (kvs.map fun q => D.tup (q.1.map keyD)) vs with
      | none => rw [q] at o1; exact o1.elim
      | some d =>
        rw [q] at o1
        rw [e'] at q
        obtain ⟨u, hu, ru⟩ := (find_at (k := kk) r').1 d q
        exact ⟨p, u, rfl, .inr ⟨kvs', kk, bb, .inl hp', rfl, h1.ok.sub _ _ hB, hu.symm⟩, o1.same h1.ok ru⟩
    · exact o1.elim
  · exact ho.elim
theorem se_get (hr : Room k X.A) (h : PE X (.Name x p1) (tVar i)) (hb : SE X W b fb) (m : M1 X (.Name x p1) "get" apos b pos) : SE X W (.Call (.Attribute (.Name x p1) "get" apos) [b] [] pos) (eGet i fb) := PE.imp (pe_dget1 (by have := hr.un; omega) h hb m) fun σ H Q ⟨B, F, μ, S, δ, hs, ho⟩ => by
  unfold eGet at ho
  split at ho
  · rename_i ks vs e
    obtain ⟨p, kvs, za, nF, nM, hb', hp, rfl, r⟩ := od_at hs e
    refine ⟨_, za, p, rfl, .inr ⟨kvs, .inl hp⟩, wE_rd hs ho fun y S1 F1 μ1 H1 w t1 h1 v1 o1 => ?_⟩
    split at o1
    · rename_i kk ek
      obtain ⟨p', kvs', za', _, _, _, hp', e', r'⟩ := od_at h1 e
      rw [za] at za'
      cases za'
      obtain ⟨bb, rfl, hB⟩ := vd_key v1 ek
      rw [e'] at o1
      refine ⟨valV kvs' kk, .inr ⟨kvs', kk, bb, .inl hp', rfl, h1.ok.sub _ _ hB, rfl⟩, ?_⟩
      cases q : findT kk (kvs'.map fun q => D.tup (q.1.map keyD)) vs with
      | none =>
        rw [q] at o1
        rw [(find_at (k := kk) r').2 q]
        exact o1.same h1.ok .non
      | some d =>
        rw [q] at o1
        obtain ⟨u, hu, ru⟩ := (find_at (k := kk) r').1 d q
        rw [hu]
        exact o1.same h1.ok ru
    · exact o1.elim
  · exact ho.elim
theorem ss_dput (hr : Room k X.A) (h : PE X (.Name x p1) (tVar i)) (hb : SE X W b fb) (hv : SE X W v fv) (hs : swapsWith v (some (.Subscript (.Name x p1) b p2)) pos.line X.env = pure false) : SS X W (.Assign [.Subscript (.Name x p1) b p2] v pos) (sDPutT i fb fv) := PS.imp (ps_dput (by have := hr.un; omega) h hb hv hs) fun D σ H ⟨B, F, μ, S, δ, hs, ho⟩ => by
  refine wE_P hs ho fun d S1 F1 μ1 H1 w t h1 r o1 => ?_
  split at o1
  · rename_i ks vs e
    obtain ⟨p, kvs, za, nF, nM, hb', hp, rfl, rr⟩ := od_at h1 e
    refine ⟨_, za, wE_rdS h1 o1 fun y S2 F2 μ2 H2 w2 t2 h2 v2 o2 => ?_⟩
    split at o2
    · rename_i kk ek
      split at o2
      · rename_i c
        simp only [Bool.and_eq_true, Option.isNone_iff_eq_none, decide_eq_true_eq] at c
        obtain ⟨p', kvs', za', nF', nM', hb2, hp', e', r'⟩ := od_at h2 e
        rw [za] at za'
        cases za'
        obtain ⟨bb, rfl, hB⟩ := vd_key v2 ek
        have c1 := c.1
        have c2 := c.2
        rw [e'] at c1 c2 o2
        have new := (find_at (k := kk) r').2 c1
        have ln : kvs'.length < sizeLine := by rw [List.length_map] at c2; rw [sizeLine_eq]; omega
        refine ⟨p, _, rfl, .inr ⟨kvs', kk, bb, hp', rfl, h2.ok.sub _ _ hB, ln, rfl⟩, ?_⟩
        have ey : y = Gt.D.tup (kk.map keyD) := by
          cases y <;> simp only [keyT, reduceCtorEq] at ek
          rw [keysD_inv ek]
        refine o2 F2 μ2 σ _ (h2.mut e rfl za rfl hb2 ⟨p, rfl, nF', nM', hb2, .inr ⟨kvs' ++ [(kk, w)], ?_, ?_, ?_⟩⟩)
        · rw [putK_new _ new]; exact upd_same
        · rw [List.map_append, ey]; rfl
        · rw [List.map_append]
          exact r'.app (.cons (r.mono t2.fr t2.mu) .nil)
      · exact o2.elim
    · exact o2.elim
  · exact o1.elim
end
end Gt
set_option Elab.async false
set_option linter.all false
set_option maxRecDepth 100000
namespace Gt
open PySem PySem.Spec PyProof.Rows L2 RZ StX
def noX : Rs Sl → Rs Sl
  | .ok s S => .ok s S
  | _ => .st
def eMeth (h : Fn) (fo : Fe) (fs : List Fe) : Fe := fun δ S => (rd fo δ S).bind fun d S => match d with
  | .ins c ds => if c = 0 then (fA fs δ S).bind fun ss S => if ss.length = fs.length then noX (h (.pl (.ins 0 ds) :: ss) S) else .st else .st
  | _ => .st
theorem lookup_no {m : Str} : ∀ {fs : List (Str × V)}, m ∉ fs.map (·.1) → fs.lookup m = none
  | [], _ => rfl
  | p :: fs, h => by
    rw [List.map_cons, List.mem_cons, not_or] at h
    obtain ⟨a, b⟩ := p
    rw [List.lookup_cons, show (m == a) = false from beq_eq_false_iff_ne.mpr h.1]
    exact lookup_no h.2
section
variable {X : Cx} {W : WX} {e o : Expr} {es : List Expr} {fo : Fe} {fs : List Fe} {pos apos : Pos} {m : Str} {f : Addr} {fd : FuncData} {ps : List Str} {k n : Nat} {h : Fn} {pl : Sem Bool}
theorem se_meth (G : FnOk X.prog X.w X.K X.mg X.base (L2.CX X.prog X.w) k f fd ps (spF X.K n h)) (hr : Room k X.A) (cl : Cls X.K (cA X.K 0)) (hm : Meth X.K (cA X.K 0) m f) (hb : Binds X.K fd ps []) (hn : fs.length + 1 = n) (hnm : m ∉ clF 0) (he : SE X W o fo) (ha : SA X W (e :: es) (fA fs))
    (hst : starEach (e :: es) X.env = (false, eval e X.env) :: starEach es X.env := by rfl) (hpl : (backTo pos (starEach es X.env)).any (·.1) = false := by rfl)
    (ht : eval (.Call (.Attribute o m apos) (e :: es) [] pos) X.env = (do
      let ov ← eval o X.env
      standAt apos.atName
      let (f, first) ← holding [ov] (getMethod ov m pl)
      callWith pos f first (backTo pos (starEach (e :: es) X.env)) (backToKw pos (keywordEach [] X.env))) := by rfl) :
    SE X W (.Call (.Attribute o m apos) (e :: es) [] pos) (eMeth h fo fs) := PE.imp (pe_meth (pl := pl) he cl hm G hr hb .nil (passL (X := X)) ha hst hpl ht) fun σ H Q ⟨B, F, μ, S, δ, hs, ho⟩ => by
  refine wE_rd hs ho fun d S1 F1 μ1 H1 v t1 h1 v1 o1 => ?_
  cases d with
  | ins c ds =>
    dsimp only at o1
    by_cases hc : c = 0
    · subst hc
      rw [if_pos rfl] at o1
      rcases v1 with v1 | ⟨_, _, e1, _⟩
      · have v2 := v1
        cases v1 with
        | ins hh nn r =>
          refine ⟨_, _, _, rfl, h1.ok.sub _ _ hh, lookup_no (by rw [nn]; exact hnm), ?_⟩
          refine wA_bind (G := fun F μ H r => OE X.K W F μ H σ δ Q r) h1 (fun _ _ h => h) (fun h => h) (fun _ _ _ _ t h => OE.go t h) o1 fun ss S2 F2 μ2 H2 vs t2 h2 r2 o2 => ?_
          split at o2
          · rename_i hl
            refine ⟨F2, μ2, S2, .pl (.ins 0 ds) :: ss, by rw [List.length_cons, hl]; exact hn, h2.ok, .cons (v2.mono t2.fr t2.mu) (by rw [List.append_nil]; exact VAs.ar h2 r2), ?_⟩
            cases q : h (.pl (.ins 0 ds) :: ss) S2 with
            | st => rw [q] at o2; exact o2.elim
            | ex _ _ => rw [q] at o2; exact o2.elim
            | ok s S3 => rw [q] at o2; exact fun F3 μ3 H3 v t3 o3 r3 => o2 F3 μ3 H3 v t3 o3 r3.of_nil
          · exact o2.elim
      · cases e1
    · rw [if_neg hc] at o1; exact o1.elim
  | _ => exact o1.elim
end
section
variable {X : Cx} {W : WX} {elt iter tg : Expr} {ifs : List Expr} {scope : Scope} {own : List (Str × Nat)} {i j : Nat} {t : Ft} {fe : Fe} {g : Tg} {pos : Pos}
theorem ownD_of {K : PySem.W.Frag} {vs : List Nat} (hv : vs = slotsT g) {D : Ends} {σ : L2.St} {H : Hp} (q : wS K W (sOwn i (eCompD j g t fe)) D σ H) : tLock (tAsg (tLc (wI K W (some vs) (iK j)) (gTg K g) (wT K W0 t) (wE K W0 fe) vs) (gName i)) D σ H := by
  obtain ⟨B, F, μ, S, δ, hs, ho⟩ := q
  have ho2 : OS K W B D (((match δ[j]? with
    | some (.od (.non :: ks) vs) => ownR (eComp g (iK j) t fe ((lockE δ).set j (.oin 0 [.dct (.non :: ks) vs])) S)
    | _ => .st) : Rs Sl).bind fun a S => match a with
    | .own xs => if i < δ.length then .ok (.nx (δ.set i (.own xs))) S else .st
    | .od ks vs => if i < δ.length then .ok (.nx (δ.set i (.od ks vs))) S else .st
    | _ => .st) := ho
  clear ho
  split at ho2
  · rename_i ks vs' e
    obtain ⟨p, kvs, za, nF, nM, hb, hp, e1, r⟩ := od_at hs e
    refine ⟨p, .dT kvs, hp, trivial, fun od => ?_⟩
    refine comp_of (W := W) hv ⟨_, F, μ, S, (lockE δ).set j (.oin 0 [.dct (.non :: ks) vs']), hs.lockD od e za nF nM hp e1 r, ?_⟩
    cases c : eComp g (iK j) t fe ((lockE δ).set j (.oin 0 [.dct (.non :: ks) vs'])) S with
    | st => rw [c] at ho2; exact (show False from ho2).elim
    | ex x S1 => rw [c] at ho2; exact (show False from ho2).elim
    | ok s S1 =>
      rw [c] at ho2
      cases s with
      | own ys =>
        have ho3 : OS K W B D (if i < δ.length then .ok (.nx (δ.set i (.own ys))) S1 else .st) := ho2
        by_cases ci : i < δ.length
        · rw [if_pos ci] at ho3
          intro F' μ' H' v t' o' ⟨p2, ws, ev, h2, r2, n2, m2, u2⟩
          obtain ⟨k1, k2, k3, k4, k5⟩ := unlock hp nF nM t' o' (fun _ z => by cases z)
          have c2 : p2 ≠ p := fun z => by subst z; rw [upd_same] at u2; cases u2
          rw [upd_ne c2] at u2
          refine ⟨k1, ho3 F' μ' _ _ ((hs.go k2 k3).put ci ⟨p2, ws, by rw [ev], by rw [upd_ne c2]; exact h2, r2, n2, m2, hs.st.tr p2 u2⟩ fun _ jj w p' ep _ ej ow z => ?_)⟩
          rw [ev] at ep
          cases ep
          exact (hs.own_at ej ow z).1 u2
        · rw [if_neg ci] at ho3; exact (show False from ho3).elim
      | _ => exact (show False from ho2).elim
  · exact (show False from ho2).elim
theorem ss_lcOwnD {y : Str} {py spos : Pos} (h : PS X (.Assign [.Name y py] (.ListComp elt [⟨tg, iter, ifs, 0⟩] scope pos) spos) (tAsg (tLc (wI X.K W (some (own.map (·.2))) (iK j)) (gTg X.K g) (wT X.K W0 t) (wE X.K W0 fe) (own.map (·.2))) (gName i))) (hv : own.map (·.2) = slotsT g) :
    SS X W (.Assign [.Name y py] (.ListComp elt [⟨tg, iter, ifs, 0⟩] scope pos) spos) (sOwn i (eCompD j g t fe)) := PS.imp (ps_lock h) fun D σ H q => ownD_of hv q
end
end Gt
set_option Elab.async false
set_option linter.all false
set_option maxRecDepth 100000
set_option maxHeartbeats 1000000
namespace Gt
open PySem PySem.Spec PyProof.Rows L2
structure Gr where
  t : Int
  g : Str
  k : Str
  l : Int
  p : Int
deriving DecidableEq
def G (x : Gr) : D := .tup [.int x.t, .str x.g, .str x.k, .int x.l, .int x.p]
abbrev GL (xs : List Gr) : D := .lst (xs.map G)
abbrev GT (xs : List Gr) : D := .tup (xs.map G)
abbrev NL (xs : List Str) : D := .lst (xs.map D.str)
abbrev NT (xs : List Str) : D := .tup (xs.map D.str)
def okS (x : Str) : Bool := x.cps.all (· < 0x110000)
def okN (x : Str) : Prop := 1 ≤ x.length ∧ x.length ≤ 8 ∧ ∀ c ∈ x.cps.toList, 97 ≤ c ∧ c ≤ 122
structure okG (x : Gr) : Prop where
  t1 : -1000000000000000000000000000000 ≤ x.t
  t2 : x.t ≤ 1000000000000000000000000000000
  g : okN x.g
  k : okN x.k
  ne : x.g ≠ x.k
  l1 : 1 ≤ x.l
  l2 : x.l ≤ 9
  p1 : 0 ≤ x.p
  p2 : x.p ≤ 20
theorem okN.s {x : Str} (h : okN x) : okS x = true := by
  unfold okS
  rw [Array.all_eq_true_iff_forall_mem]
  intro c hc
  have := h.2.2 c (Array.mem_toList_iff.mpr hc)
  simp; omega
theorem eqv_int (i j : Int) : PyData.eqv (.int i) (.int j) = decide (i = j) := by rw [PyData.eqv]; rfl
theorem eqv_str (x y : Str) : PyData.eqv (.str x) (.str y) = decide (x = y) := by rw [PyData.eqv]; rfl
@[simp] theorem toPy_int (i : Int) : toPy (.int i) = .int i := by simp [toPy]
@[simp] theorem toPy_str (i : Str) : toPy (.str i) = .str i := by simp [toPy]
@[simp] theorem toPy_bl (i : Bool) : toPy (.bl i) = .bool i := by simp [toPy]
@[simp] theorem toPy_non : toPy .non = .none := by simp [toPy]
theorem toPyA_map (xs : List D) : toPyA xs = xs.map toPy := by
  induction xs with
  | nil => simp [toPyA]
  | cons x xs h => simp [toPyA, h]
theorem toPy_lst (xs : List D) : toPy (.lst xs) = .list (xs.map toPy) := by rw [toPy, toPyA_map]
theorem toPy_tup (xs : List D) : toPy (.tup xs) = .tuple (xs.map toPy) := by rw [toPy, toPyA_map]
theorem plainA_all (xs : List D) : plainA xs = xs.all plainD := by
  induction xs with
  | nil => simp [plainA]
  | cons x xs h => simp [plainA, h]
theorem eqvAll_map {α : Type} [DecidableEq α] (f : α → PyData) (h : ∀ a b, PyData.eqv (f a) (f b) = decide (a = b)) : ∀ xs ys : List α, PyData.eqvAll (xs.map f) (ys.map f) = decide (xs = ys)
  | [], [] => by simp [PyData.eqvAll]
  | [], _ :: _ => by simp [PyData.eqvAll]
  | _ :: _, [] => by simp [PyData.eqvAll]
  | x :: xs, y :: ys => by
    rw [List.map_cons, List.map_cons, PyData.eqvAll, h, eqvAll_map f h xs ys]
    by_cases a : x = y <;> by_cases b : xs = ys <;> simp [a, b]
theorem toPy_G (x : Gr) : toPy (G x) = .tuple [.int x.t, .str x.g, .str x.k, .int x.l, .int x.p] := by simp [G, toPy_tup]
theorem eqv_G (x y : Gr) : PyData.eqv (toPy (G x)) (toPy (G y)) = decide (x = y) := by
  rw [toPy_G, toPy_G]
  simp only [PyData.eqv, PyData.eqvAll, Bool.and_true]
  cases x; cases y
  simp only [Gr.mk.injEq]
  simp only [Bool.decide_and]
  rfl
theorem okp_int (i : Int) : okp (.int i) = true := by simp [okp, plainD, SeqAt.shaped, PyData.canLay0, PyData.depth]
theorem okp_non : okp .non = true := by simp [okp, plainD, SeqAt.shaped, PyData.canLay0, PyData.depth]
theorem okp_bl (i : Bool) : okp (.bl i) = true := by simp [okp, plainD, SeqAt.shaped, PyData.canLay0, PyData.depth]
theorem okp_str {x : Str} (h : okS x = true) : okp (.str x) = true := by
  simp only [okp, plainD, SeqAt.shaped, toPy_str, PyData.canLay0, PyData.depth, PyData.strOk, Bool.true_and]
  simp
  exact by simpa [okS] using h
theorem depthAll_le {n : Nat} : ∀ {xs : List PyData}, (∀ x ∈ xs, x.depth ≤ n) → PyData.depthAll xs ≤ n
  | [], _ => by simp [PyData.depthAll]
  | x :: xs, h => by
    have h1 := h x (by simp)
    have h2 := depthAll_le (xs := xs) fun y hy => h y (by simp [hy])
    rw [PyData.depthAll]; omega
theorem canLayAll_of : ∀ {xs : List PyData}, (∀ x ∈ xs, x.canLay0 = true) → PyData.canLayAll0 xs = true
  | [], _ => by simp [PyData.canLayAll0]
  | x :: xs, h => by
    have h1 := h x (by simp)
    have h2 := canLayAll_of (xs := xs) fun y hy => h y (by simp [hy])
    rw [PyData.canLayAll0, h1, h2]; rfl
def okd (n : Nat) (d : D) : Prop := plainD d = true ∧ (toPy d).canLay0 = true ∧ (toPy d).depth ≤ n
theorem okd.p {n : Nat} {d : D} (h : okd n d) (hn : n ≤ 64) : okp d = true := by
  unfold okp SeqAt.shaped
  rw [h.1, h.2.1]
  simp; have := h.2.2; omega
theorem okd.small {n : Nat} {d : D} (h : okd n d) (hn : n ≤ 60) : smallD d = true := by
  unfold smallD
  rw [h.1]
  simp; have := h.2.2; omega
theorem okd.lst {n : Nat} {xs : List D} (h : ∀ x ∈ xs, okd n x) : okd (n + 1) (.lst xs) := by
  refine ⟨?_, ?_, ?_⟩
  · rw [plainD, plainA_all, List.all_eq_true]; exact fun x hx => (h x hx).1
  · rw [toPy_lst, PyData.canLay0]; exact canLayAll_of fun y hy => by obtain ⟨x, hx, rfl⟩ := List.mem_map.mp hy; exact (h x hx).2.1
  · rw [toPy_lst, PyData.depth]
    have := depthAll_le (n := n) (xs := xs.map toPy) fun y hy => by obtain ⟨x, hx, rfl⟩ := List.mem_map.mp hy; exact (h x hx).2.2
    omega
theorem okd.tup {n : Nat} {xs : List D} (h : ∀ x ∈ xs, okd n x) : okd (n + 1) (.tup xs) := by
  refine ⟨?_, ?_, ?_⟩
  · rw [plainD, plainA_all, List.all_eq_true]; exact fun x hx => (h x hx).1
  · rw [toPy_tup, PyData.canLay0]; exact canLayAll_of fun y hy => by obtain ⟨x, hx, rfl⟩ := List.mem_map.mp hy; exact (h x hx).2.1
  · rw [toPy_tup, PyData.depth]
    have := depthAll_le (n := n) (xs := xs.map toPy) fun y hy => by obtain ⟨x, hx, rfl⟩ := List.mem_map.mp hy; exact (h x hx).2.2
    omega
theorem okd.int (i : Int) : okd 0 (.int i) := ⟨by simp [plainD], by simp [PyData.canLay0], by simp [PyData.depth]⟩
theorem okd.str {x : Str} (h : okS x = true) : okd 0 (.str x) := ⟨by simp [plainD], by simpa [PyData.canLay0, PyData.strOk, okS] using h, by simp [PyData.depth]⟩
structure okGS (x : Gr) : Prop where
  g : okS x.g = true
  k : okS x.k = true
theorem okG.s {x : Gr} (h : okG x) : okGS x := ⟨h.g.s, h.k.s⟩
theorem okd.G {x : Gr} (h : okGS x) : okd 1 (G x) := okd.tup fun y hy => by
  simp only [List.mem_cons, List.not_mem_nil, or_false] at hy
  rcases hy with rfl | rfl | rfl | rfl | rfl
  · exact okd.int _
  · exact okd.str h.g
  · exact okd.str h.k
  · exact okd.int _
  · exact okd.int _
theorem okd.GL {xs : List Gr} (h : ∀ x ∈ xs, okGS x) : okd 2 (GL xs) := okd.lst fun y hy => by obtain ⟨x, hx, rfl⟩ := List.mem_map.mp hy; exact okd.G (h x hx)
theorem okd.GT {xs : List Gr} (h : ∀ x ∈ xs, okGS x) : okd 2 (GT xs) := okd.tup fun y hy => by obtain ⟨x, hx, rfl⟩ := List.mem_map.mp hy; exact okd.G (h x hx)
theorem okd.NL {xs : List Str} (h : ∀ x ∈ xs, okS x = true) : okd 1 (NL xs) := okd.lst fun y hy => by obtain ⟨x, hx, rfl⟩ := List.mem_map.mp hy; exact okd.str (h x hx)
theorem okd.NT {xs : List Str} (h : ∀ x ∈ xs, okS x = true) : okd 1 (NT xs) := okd.tup fun y hy => by obtain ⟨x, hx, rfl⟩ := List.mem_map.mp hy; exact okd.str (h x hx)
@[simp] theorem eqS_int (i j : Int) : eqS (.int i) (.int j) = some (.pl (.bl (decide (i = j)))) := by simp [eqS, eqD, okp_int, eqv_int]
@[simp] theorem neS_int (i j : Int) : neS (.int i) (.int j) = some (.pl (.bl (!decide (i = j)))) := by simp [neS, eqD, okp_int, eqv_int]
@[simp] theorem eqS_bl (i j : Bool) : eqS (.bl i) (.bl j) = some (.pl (.bl (decide (i = j)))) := by simp [eqS, eqD, okp_bl, PyData.eqv]; rfl
@[simp] theorem neS_bl (i j : Bool) : neS (.bl i) (.bl j) = some (.pl (.bl (!decide (i = j)))) := by simp [neS, eqD, okp_bl, PyData.eqv]; rfl
@[simp] theorem eqS_strs (x y : Str) : eqS (.str x) (.str y) = some (.pl (.bl (decide (x = y)))) := by simp [eqS, eqD, isSS, eqv_str]
@[simp] theorem neS_strs (x y : Str) : neS (.str x) (.str y) = some (.pl (.bl (!decide (x = y)))) := by simp [neS, eqD, isSS, eqv_str]
theorem eqS_str {x y : Str} (a : okS x = true) (b : okS y = true) : eqS (.str x) (.str y) = some (.pl (.bl (decide (x = y)))) := eqS_strs x y
theorem neS_str {x y : Str} (a : okS x = true) (b : okS y = true) : neS (.str x) (.str y) = some (.pl (.bl (!decide (x = y)))) := neS_strs x y
theorem eqS_G {x y : Gr} (a : okGS x) (b : okGS y) : eqS (G x) (G y) = some (.pl (.bl (decide (x = y)))) := by simp [eqS, eqD, (okd.G a).p, (okd.G b).p, eqv_G]
theorem neS_G {x y : Gr} (a : okGS x) (b : okGS y) : neS (G x) (G y) = some (.pl (.bl (!decide (x = y)))) := by simp [neS, eqD, (okd.G a).p, (okd.G b).p, eqv_G]
theorem eqv_GL (xs ys : List Gr) : PyData.eqv (toPy (GL xs)) (toPy (GL ys)) = decide (xs = ys) := by
  rw [toPy_lst, toPy_lst, PyData.eqv, List.map_map, List.map_map]; exact eqvAll_map _ eqv_G xs ys
theorem eqv_GT (xs ys : List Gr) : PyData.eqv (toPy (GT xs)) (toPy (GT ys)) = decide (xs = ys) := by
  rw [toPy_tup, toPy_tup, PyData.eqv, List.map_map, List.map_map]; exact eqvAll_map _ eqv_G xs ys
theorem eqS_GL {x y : List Gr} (a : ∀ z ∈ x, okGS z) (b : ∀ z ∈ y, okGS z) : eqS (GL x) (GL y) = some (.pl (.bl (decide (x = y)))) := by simp only [eqS, eqD, (okd.GL a).p (by decide), (okd.GL b).p (by decide), eqv_GL]; rfl
theorem neS_GL {x y : List Gr} (a : ∀ z ∈ x, okGS z) (b : ∀ z ∈ y, okGS z) : neS (GL x) (GL y) = some (.pl (.bl (!decide (x = y)))) := by simp only [neS, eqD, (okd.GL a).p (by decide), (okd.GL b).p (by decide), eqv_GL]; rfl
theorem any_G (x : Gr) (xs : List Gr) : (xs.map G).any (fun z => PyData.eqv (toPy z) (toPy (G x))) = decide (x ∈ xs) := by
  rw [List.any_map]
  simp only [Function.comp_def, eqv_G]
  by_cases h : x ∈ xs
  · simp only [h, decide_true, List.any_eq_true, decide_eq_true_eq]; exact ⟨x, h, rfl⟩
  · simp only [h, decide_false, List.any_eq_false, decide_eq_true_eq]; exact fun z hz e => h (e ▸ hz)
theorem any_N (x : Str) (xs : List Str) : (xs.map D.str).any (fun z => PyData.eqv (toPy z) (toPy (D.str x))) = decide (x ∈ xs) := by
  rw [List.any_map]
  simp only [Function.comp_def, toPy_str, eqv_str]
  by_cases h : x ∈ xs
  · simp only [h, decide_true, List.any_eq_true, decide_eq_true_eq]; exact ⟨x, h, rfl⟩
  · simp only [h, decide_false, List.any_eq_false, decide_eq_true_eq]; exact fun z hz e => h (e ▸ hz)
theorem inD_GL {x : Gr} {xs : List Gr} (a : okGS x) (b : ∀ z ∈ xs, okGS z) : inD (G x) (GL xs) = some (decide (x ∈ xs)) := by
  have h1 := (okd.G a).p (by decide); have h2 := (okd.GL b).p (by decide)
  have e : inD (G x) (GL xs) = if okp (G x) && okp (GL xs) then some ((xs.map G).any fun z => PyData.eqv (toPy z) (toPy (G x))) else none := by unfold inD; rfl
  rw [e, h1, h2, any_G]; rfl
theorem inD_GT {x : Gr} {xs : List Gr} (a : okGS x) (b : ∀ z ∈ xs, okGS z) : inD (G x) (GT xs) = some (decide (x ∈ xs)) := by
  have h1 := (okd.G a).p (by decide); have h2 := (okd.GT b).p (by decide)
  have e : inD (G x) (GT xs) = if okp (G x) && okp (GT xs) then some ((xs.map G).any fun z => PyData.eqv (toPy z) (toPy (G x))) else none := by unfold inD; rfl
  rw [e, h1, h2, any_G]; rfl
theorem inD_NL {x : Str} {xs : List Str} (a : okS x = true) (b : ∀ z ∈ xs, okS z = true) : inD (.str x) (NL xs) = some (decide (x ∈ xs)) := by
  have h1 := okp_str a; have h2 := (okd.NL b).p (by decide)
  have e : inD (.str x) (NL xs) = if okp (.str x) && okp (NL xs) then some ((xs.map D.str).any fun z => PyData.eqv (toPy z) (toPy (.str x))) else none := by unfold inD; rfl
  rw [e, h1, h2, any_N]; rfl
theorem inD_NT {x : Str} {xs : List Str} (a : okS x = true) (b : ∀ z ∈ xs, okS z = true) : inD (.str x) (NT xs) = some (decide (x ∈ xs)) := by
  have h1 := okp_str a; have h2 := (okd.NT b).p (by decide)
  have e : inD (.str x) (NT xs) = if okp (.str x) && okp (NT xs) then some ((xs.map D.str).any fun z => PyData.eqv (toPy z) (toPy (.str x))) else none := by unfold inD; rfl
  rw [e, h1, h2, any_N]; rfl
theorem inS_of {x y : D} {b : Bool} (h : inD x y = some b) : inS x y = some (.pl (.bl b)) := by simp [inS, h]
theorem notInS_of {x y : D} {b : Bool} (h : inD x y = some b) : notInS x y = some (.pl (.bl (!b))) := by simp [notInS, h]
theorem small_int (i : Int) : smallD (.int i) = true := (okd.int i).small (by decide)
theorem like_int (i j : Int) : likeD (.int i) (.int j) = true := by simp [likeD, PySem.W.alike]
@[simp] theorem ltS_int (i j : Int) : ltS (.int i) (.int j) = some (.pl (.bl (decide (i < j)))) := by simp [ltS, cmpD, small_int, like_int, isNon, PySem.W.dataLt_int]
@[simp] theorem gtS_int (i j : Int) : gtS (.int i) (.int j) = some (.pl (.bl (decide (j < i)))) := by simp [gtS, cmpD, small_int, like_int, isNon, PySem.W.dataLt_int]
@[simp] theorem leS_int (i j : Int) : leS (.int i) (.int j) = some (.pl (.bl (decide (i ≤ j)))) := by simp [leS, cmpD, small_int, like_int, isNon, PySem.W.dataLt_int, ← decide_not]
@[simp] theorem geS_int (i j : Int) : geS (.int i) (.int j) = some (.pl (.bl (decide (j ≤ i)))) := by simp [geS, cmpD, small_int, like_int, isNon, PySem.W.dataLt_int, ← decide_not]
end Gt
set_option Elab.async false
set_option linter.all false
set_option maxRecDepth 100000
set_option maxHeartbeats 1000000
namespace Gt
open PySem PySem.Spec PyProof.Rows L2
structure SLO {α : Type} (lt : α → α → Bool) (E : α → α → Prop) : Prop where
  irr : ∀ a, lt a a = false
  tr : ∀ a b c, lt a b = true → lt b c = true → lt a c = true
  tri : ∀ a b, lt a b = false → lt b a = false → E a b
def lexB {α β : Type} [DecidableEq β] (f : α → β) (lt : β → β → Bool) (nx : α → α → Bool) (a b : α) : Bool := if f a = f b then nx a b else lt (f a) (f b)
theorem SLO.lex {α β : Type} [DecidableEq β] {f : α → β} {lt : β → β → Bool} {nx : α → α → Bool} {E : α → α → Prop} (h : SLO lt Eq) (n : SLO nx E) : SLO (lexB f lt nx) (fun a b => f a = f b ∧ E a b) := by
  refine ⟨fun a => ?_, fun a b c h1 h2 => ?_, fun a b h1 h2 => ?_⟩
  · unfold lexB; rw [if_pos rfl]; exact n.irr a
  · unfold lexB at h1 h2 ⊢
    by_cases e1 : f a = f b
    · rw [if_pos e1] at h1
      by_cases e2 : f b = f c
      · rw [if_pos e2] at h2; rw [if_pos (e1.trans e2)]; exact n.tr _ _ _ h1 h2
      · rw [if_neg e2] at h2; rw [if_neg (fun z => e2 (e1.symm.trans z)), e1]; exact h2
    · rw [if_neg e1] at h1
      by_cases e2 : f b = f c
      · rw [if_neg (fun z => e1 (z.trans e2.symm)), ← e2]; exact h1
      · rw [if_neg e2] at h2
        have h3 := h.tr _ _ _ h1 h2
        by_cases e3 : f a = f c
        · rw [e3, h.irr] at h3; cases h3
        · rw [if_neg e3]; exact h3
  · unfold lexB at h1 h2
    by_cases e : f a = f b
    · rw [if_pos e] at h1; rw [if_pos e.symm] at h2; exact ⟨e, n.tri _ _ h1 h2⟩
    · rw [if_neg e] at h1; rw [if_neg (fun z => e z.symm)] at h2; exact absurd (h.tri _ _ h1 h2) e
theorem SLO.int : SLO (fun a b : Int => decide (a < b)) Eq := ⟨fun a => by simp, fun a b c h1 h2 => by simp at *; omega, fun a b h1 h2 => by simp at *; omega⟩
theorem SLO.str : SLO (fun a b : Str => decide (a.cps.toList < b.cps.toList)) Eq := ⟨fun a => by simp [List.lt_irrefl], fun a b c h1 h2 => by
    simp only [decide_eq_true_eq] at *; exact List.lt_trans h1 h2, fun a b h1 h2 => by
    simp only [decide_eq_false_iff_not] at *
    exact PySem.W.str_of_cps (List.le_antisymm (List.not_lt.mp h2) (List.not_lt.mp h1))⟩
theorem SLO.none {α : Type} : SLO (fun _ _ : α => false) (fun _ _ => True) := ⟨fun _ => rfl, fun _ _ _ h _ => h, fun _ _ _ _ => trivial⟩
theorem SLO.imp {α : Type} {lt : α → α → Bool} {E E' : α → α → Prop} (h : SLO lt E) (i : ∀ a b, E a b → E' a b) : SLO lt E' := ⟨h.irr, h.tr, fun a b x y => i a b (h.tri a b x y)⟩
def ltG : Gr → Gr → Bool := lexB Gr.t (fun a b => decide (a < b)) (lexB Gr.g (fun a b => decide (a.cps.toList < b.cps.toList)) (lexB Gr.k (fun a b => decide (a.cps.toList < b.cps.toList)) (lexB Gr.l (fun a b => decide (a < b)) (lexB Gr.p (fun a b => decide (a < b)) fun _ _ => false))))
theorem sloG : SLO ltG Eq := (SLO.int.lex (SLO.str.lex (SLO.str.lex (SLO.int.lex (SLO.int.lex .none))))).imp fun a b ⟨h1, h2, h3, h4, h5, _⟩ => by cases a; cases b; simp_all
theorem dataLt_G (x y : Gr) : PySem.W.dataLt (toPy (G x)) (toPy (G y)) = ltG x y := by
  rw [toPy_G, toPy_G, PySem.W.dataLt_tuple, PySem.W.dataLt_cons rfl, PySem.W.dataLt_cons rfl, PySem.W.dataLt_cons rfl, PySem.W.dataLt_cons rfl, PySem.W.dataLt_cons rfl]
  simp only [eqv_int, eqv_str, PySem.W.dataLt_int, PySem.W.dataLt_str, decide_eq_true_eq]
  unfold ltG lexB
  rfl
theorem like_G (x y : Gr) : likeD (G x) (G y) = true := by
  unfold likeD
  rw [toPy_G, toPy_G]
  rfl
def leG (a b : Gr) : Bool := !ltG b a
def leN (a b : Str) : Bool := !decide (b.cps.toList < a.cps.toList)
def sortG (xs : List Gr) : List Gr := xs.mergeSort leG
def sortN (xs : List Str) : List Str := xs.mergeSort leN
theorem SLO.le_trans {α : Type} {lt : α → α → Bool} (h : SLO lt Eq) (a b c : α) (h1 : (!lt b a) = true) (h2 : (!lt c b) = true) : (!lt c a) = true := by
  rw [Bool.not_eq_true'] at *
  cases e : lt c a with
  | false => rfl
  | true =>
    cases e2 : lt a b with
    | true => rw [h.tr _ _ _ e e2] at h2; cases h2
    | false =>
      have := h.tri _ _ e2 h1
      subst this
      rw [e] at h2; cases h2
theorem SLO.le_total {α : Type} {lt : α → α → Bool} (h : SLO lt Eq) (a b : α) : ((!lt b a) || (!lt a b)) = true := by
  cases e : lt b a with
  | false => rfl
  | true =>
    cases e2 : lt a b with
    | false => rfl
    | true =>
      have := h.tr _ _ _ e e2
      rw [h.irr] at this; cases this
theorem SLO.le_anti {α : Type} {lt : α → α → Bool} (h : SLO lt Eq) (a b : α) (h1 : (!lt b a) = true) (h2 : (!lt a b) = true) : a = b := by
  rw [Bool.not_eq_true'] at *
  exact h.tri _ _ h2 h1
theorem leG_trans (a b c : Gr) : leG a b = true → leG b c = true → leG a c = true := sloG.le_trans a b c
theorem leG_total (a b : Gr) : (leG a b || leG b a) = true := sloG.le_total a b
theorem leG_anti (a b : Gr) : leG a b = true → leG b a = true → a = b := sloG.le_anti a b
theorem leN_trans (a b c : Str) : leN a b = true → leN b c = true → leN a c = true := SLO.str.le_trans a b c
theorem leN_total (a b : Str) : (leN a b || leN b a) = true := SLO.str.le_total a b
theorem leN_anti (a b : Str) : leN a b = true → leN b a = true → a = b := SLO.str.le_anti a b
def SG (xs : List Gr) : Prop := xs.Pairwise fun a b => leG a b = true
theorem sortG_sorted (xs : List Gr) : SG (sortG xs) := List.pairwise_mergeSort leG_trans leG_total xs
theorem sortG_perm (xs : List Gr) : (sortG xs).Perm xs := List.mergeSort_perm xs leG
theorem mem_sortG {xs : List Gr} {x : Gr} : x ∈ sortG xs ↔ x ∈ xs := (sortG_perm xs).mem_iff
theorem sortG_of {xs : List Gr} (h : SG xs) : sortG xs = xs := List.mergeSort_of_pairwise h
theorem SG.same {xs ys : List Gr} (h : SG xs) (h2 : SG ys) (p : xs.Perm ys) : xs = ys := List.Perm.eq_of_pairwise (le := fun a b => leG a b = true) (fun a b _ _ => leG_anti a b) h h2 p
theorem leG_t {a b : Gr} (h : leG a b = true) : a.t ≤ b.t := by
  unfold leG ltG lexB at h
  by_cases e : b.t = a.t
  · omega
  · rw [if_neg e] at h
    simp at h; omega
theorem sort_map {α : Type} (f : α → D) (le : α → α → Bool) (h : ∀ a b, leD (f a) (f b) = le a b) (xs : List α) : sortD (xs.map f) = (xs.mergeSort le).map f := by
  unfold sortD
  rw [List.map_mergeSort]
  intro a _ b _
  rw [h]
theorem leD_G (a b : Gr) : leD (G a) (G b) = leG a b := by
  unfold leD leG
  rw [PySem.W.dataLe_eq]
  show (!PySem.W.dataLt (toPy (G b)) (toPy (G a))) = _
  rw [dataLt_G]
theorem leD_N (a b : Str) : leD (.str a) (.str b) = leN a b := by
  unfold leD leN
  rw [PySem.W.dataLe_eq]
  show (!PySem.W.dataLt (toPy (.str b)) (toPy (.str a))) = _
  rw [toPy_str, toPy_str, PySem.W.dataLt_str]
theorem okSort_G {xs : List Gr} (h : ∀ z ∈ xs, okGS z) (l : xs.length ≤ cap) : okSort (xs.map G) = true := by
  simp only [okSort, List.length_map, l, decide_true, Bool.true_and, Bool.and_eq_true, List.all_eq_true, Bool.or_eq_true, List.mem_map, forall_exists_index, and_imp, forall_apply_eq_imp_iff₂]
  exact ⟨fun a ha => (okd.G (h a ha)).small (by decide), fun a _ b _ => like_G a b, Or.inl fun a _ => rfl⟩
theorem okSort_N {xs : List Str} (h : ∀ z ∈ xs, okS z = true) (l : xs.length ≤ cap) : okSort (xs.map D.str) = true := by
  simp only [okSort, List.length_map, l, decide_true, Bool.true_and, Bool.and_eq_true, List.all_eq_true, Bool.or_eq_true, List.mem_map, forall_exists_index, and_imp, forall_apply_eq_imp_iff₂]
  exact ⟨fun a ha => (okd.str (h a ha)).small (by decide), fun a _ b _ => by simp [likeD, PySem.W.alike], Or.inr fun a _ => rfl⟩
theorem sortS_GL {xs : List Gr} (h : ∀ z ∈ xs, okGS z) (l : xs.length ≤ cap) : sortS [GL xs] = some (.own ((sortG xs).map G)) := by
  show (if okSort (xs.map G) = true then some (Sl.own (sortD (xs.map G))) else none) = _
  rw [if_pos (okSort_G h l), sort_map G leG leD_G]
  rfl
theorem sortS_GT {xs : List Gr} (h : ∀ z ∈ xs, okGS z) (l : xs.length ≤ cap) : sortS [GT xs] = some (.own ((sortG xs).map G)) := sortS_GL h l
theorem sortS_NL {xs : List Str} (h : ∀ z ∈ xs, okS z = true) (l : xs.length ≤ cap) : sortS [NL xs] = some (.own ((sortN xs).map D.str)) := by
  show (if okSort (xs.map D.str) = true then some (Sl.own (sortD (xs.map D.str))) else none) = _
  rw [if_pos (okSort_N h l), sort_map D.str leN leD_N]
  rfl
theorem sortS_NT {xs : List Str} (h : ∀ z ∈ xs, okS z = true) (l : xs.length ≤ cap) : sortS [NT xs] = some (.own ((sortN xs).map D.str)) := sortS_NL h l
theorem mem_sortN {xs : List Str} {x : Str} : x ∈ sortN xs ↔ x ∈ xs := (List.mergeSort_perm xs leN).mem_iff
def supp (a b : Gr) : Bool := decide (a.k = b.g) && (decide (a.t < b.t) && (decide (b.l ≤ a.l) && decide (b.p < a.p)))
def takes (ow : List Str) (found : List Gr) (x : Gr) : Bool := decide (x.g ∈ ow) || found.any fun y => supp y x
def cntF (ow : List Str) : List Gr → List Gr → List Gr
  | found, [] => found
  | found, x :: r => cntF ow (if takes ow found x = true then found ++ [x] else found) r
def cnt (ow : List Str) (xs : List Gr) : List Gr := cntF ow [] (sortG xs)
def stand (ow : List Str) (xs : List Gr) : Prop := ∀ x ∈ xs, x.g ∈ ow ∨ ∃ y ∈ xs, supp y x = true
theorem takes_iff {ow : List Str} {f : List Gr} {x : Gr} : takes ow f x = true ↔ x.g ∈ ow ∨ ∃ y ∈ f, supp y x = true := by
  simp [takes]
theorem cntF_sub (ow : List Str) : ∀ (r f : List Gr), ∃ s, s.Sublist r ∧ cntF ow f r = f ++ s
  | [], f => ⟨[], .refl _, by simp [cntF]⟩
  | x :: r, f => by
    unfold cntF
    split
    · obtain ⟨s, h, e⟩ := cntF_sub ow r (f ++ [x])
      exact ⟨x :: s, h.cons_cons x, by rw [e]; simp⟩
    · obtain ⟨s, h, e⟩ := cntF_sub ow r f
      exact ⟨s, h.cons x, e⟩
theorem cntF_stand (ow : List Str) : ∀ (r f : List Gr), stand ow f → stand ow (cntF ow f r)
  | [], f, h => h
  | x :: r, f, h => by
    unfold cntF
    split
    · rename_i t
      refine cntF_stand ow r _ fun y hy => ?_
      rcases List.mem_append.mp hy with hy | hy
      · rcases h y hy with q | ⟨z, hz, q⟩
        · exact .inl q
        · exact .inr ⟨z, List.mem_append_left _ hz, q⟩
      · simp only [List.mem_singleton] at hy
        subst hy
        rcases takes_iff.mp t with q | ⟨z, hz, q⟩
        · exact .inl q
        · exact .inr ⟨z, List.mem_append_left _ hz, q⟩
    · exact cntF_stand ow r f h
theorem supp_t {a b : Gr} (h : supp a b = true) : a.t < b.t := by simp [supp] at h; omega
theorem cntF_max (ow : List Str) (T : List Gr) (hT : stand ow T) : ∀ (r f : List Gr), SG r → (∀ x ∈ T, x ∈ f ∨ x ∈ r) → ∀ x ∈ T, x ∈ cntF ow f r
  | [], f, _, h => fun x hx => by simpa [cntF] using h x hx
  | a :: r, f, s, h => fun x hx => by
    have s2 := List.pairwise_cons.mp s
    unfold cntF
    refine cntF_max ow T hT r _ s2.2 (fun y hy => ?_) x hx
    rcases h y hy with q | q
    · left
      split
      · exact List.mem_append_left _ q
      · exact q
    · rcases List.mem_cons.mp q with rfl | q
      · left
        have t : takes ow f y = true := takes_iff.mpr (by
          rcases hT y hy with z | ⟨z, hz, e⟩
          · exact .inl z
          · rcases h z hz with m | m
            · exact .inr ⟨z, m, e⟩
            · have lt := supp_t e
              rcases List.mem_cons.mp m with rfl | m
              · omega
              · have := leG_t (s2.1 z m)
                omega)
        rw [if_pos t]
        exact List.mem_append_right _ (by simp)
      · exact .inr q
theorem cnt_sub (ow : List Str) (xs : List Gr) : (cnt ow xs).Sublist (sortG xs) := by
  obtain ⟨s, h, e⟩ := cntF_sub ow (sortG xs) []
  rw [cnt, e]; exact h
theorem cnt_mem {ow : List Str} {xs : List Gr} {x : Gr} (h : x ∈ cnt ow xs) : x ∈ xs := mem_sortG.mp ((cnt_sub ow xs).subset h)
theorem cnt_stand (ow : List Str) (xs : List Gr) : stand ow (cnt ow xs) := cntF_stand ow _ _ fun x hx => by cases hx
theorem cnt_sorted (ow : List Str) (xs : List Gr) : SG (cnt ow xs) := (sortG_sorted xs).sublist (cnt_sub ow xs)
theorem cnt_max {ow : List Str} {xs T : List Gr} (h : stand ow T) (s : ∀ x ∈ T, x ∈ xs) : ∀ x ∈ T, x ∈ cnt ow xs := cntF_max ow T h _ _ (sortG_sorted xs) fun x hx => .inr (mem_sortG.mpr (s x hx))
theorem cnt_nodup {ow : List Str} {xs : List Gr} (h : xs.Nodup) : (cnt ow xs).Nodup := ((sortG_perm xs).nodup_iff.mpr h).sublist (cnt_sub ow xs)
theorem nodup_perm {xs ys : List Gr} (h1 : xs.Nodup) (h2 : ys.Nodup) (h : ∀ x, x ∈ xs ↔ x ∈ ys) : xs.Perm ys := (List.perm_ext_iff_of_nodup h1 h2).mpr h
theorem cnt_self {ow : List Str} {xs : List Gr} (n : xs.Nodup) (s : SG xs) (h : stand ow xs) : cnt ow xs = xs :=
  (cnt_sorted ow xs).same s (nodup_perm (cnt_nodup n) n fun x => ⟨cnt_mem, cnt_max h (fun _ h => h) x⟩)
theorem cnt_congr {ow : List Str} {xs ys : List Gr} (h : xs.Perm ys) : cnt ow xs = cnt ow ys := by
  unfold cnt
  rw [(sortG_sorted xs).same (sortG_sorted ys) ((sortG_perm xs).trans (h.trans (sortG_perm ys).symm))]
theorem takes_own {ow ow' : List Str} (h : ∀ x, x ∈ ow ↔ x ∈ ow') (f : List Gr) (x : Gr) : takes ow f x = takes ow' f x := by
  unfold takes
  rw [show decide (x.g ∈ ow) = decide (x.g ∈ ow') from by simp [h x.g]]
theorem cntF_own {ow ow' : List Str} (h : ∀ x, x ∈ ow ↔ x ∈ ow') : ∀ (r f : List Gr), cntF ow f r = cntF ow' f r
  | [], f => rfl
  | x :: r, f => by unfold cntF; rw [takes_own h, cntF_own h r]
theorem cnt_own {ow ow' : List Str} (h : ∀ x, x ∈ ow ↔ x ∈ ow') (xs : List Gr) : cnt ow xs = cnt ow' xs := cntF_own h _ _
end Gt
set_option Elab.async false
set_option linter.all false
set_option maxRecDepth 100000
set_option maxHeartbeats 1000000
namespace Gt
open PySem PySem.Spec PyProof.Rows L2
section
variable {δ : Evm} {S : Ms} {f fa fb fc : Fe} {d : D} {g g' : D → D → Option Sl} {t u : Ft} {s s' : Fs} {i j : Nat} {fs : List Fe} {h : Fn} {dd : List D} {k : List D → Option Sl}
@[simp] theorem x_eC : eC d δ S = .ok (.pl d) S := rfl
@[simp] theorem x_eV : eV i δ S = (match δ[i]? with
  | some (.pl d) => .ok (.pl d) S
  | some (.own xs) => .ok (.bor xs) S
  | some (.bor xs) => .ok (.bor xs) S
  | _ => .st) := rfl
@[simp] theorem x_rd : rd f δ S = rd1 (f δ S) := rfl
@[simp] theorem x_eB : eB g fa fb δ S = (rd fa δ S).bind fun x S => (rd fb δ S).bind fun y S => lift (g x y) S := rfl
@[simp] theorem x_tV : tV f δ S = (rd f δ S).bind fun d S => (match truD d with
  | some b => .ok b S
  | none => .st) := rfl
@[simp] theorem x_isB {b : Bool} : isB (.bl b) = some b := rfl
@[simp] theorem x_truB {b : Bool} : truD (.bl b) = some b := rfl
@[simp] theorem x_tB : tB' f δ S = (rd f δ S).bind fun d S => (match isB d with
  | some b => .ok b S
  | none => .st) := rfl
@[simp] theorem x_tAnd : tAnd' t u δ S = (t δ S).bind fun b S => if b = true then u δ S else .ok false S := rfl
@[simp] theorem x_tOr : tOr' t u δ S = (t δ S).bind fun b S => if b = true then .ok true S else u δ S := rfl
@[simp] theorem x_tNot : tNot' t δ S = (t δ S).bind fun b S => .ok (!b) S := rfl
@[simp] theorem x_eAnd : eAnd fa fb δ S = (rd fa δ S).bind fun d S => (match isB d with
  | some true => fb δ S
  | some false => .ok (.pl (.bl false)) S
  | none => .st) := rfl
@[simp] theorem x_eOr : eOr fa fb δ S = (rd fa δ S).bind fun d S => (match isB d with
  | some true => .ok (.pl (.bl true)) S
  | some false => fb δ S
  | none => .st) := rfl
@[simp] theorem x_eNot : eNot fa δ S = (rd fa δ S).bind fun d S => (match isB d with
  | some b => .ok (.pl (.bl (!b))) S
  | none => .st) := rfl
@[simp] theorem x_eNotT : eNotT fa δ S = (rd fa δ S).bind fun d S => (match truD d with
  | some b => .ok (.pl (.bl (!b))) S
  | none => .st) := rfl
@[simp] theorem x_eIf : eIf t fa fb δ S = (t δ S).bind fun b S => if b = true then fa δ S else fb δ S := rfl
@[simp] theorem x_eNeg : eNeg fa δ S = (rd fa δ S).bind fun d S => (match d with
  | .int i => .ok (.pl (.int (-i))) S
  | _ => .st) := rfl
@[simp] theorem x_isNon : isNon .non = true := rfl
@[simp] theorem x_isNonI {i : Int} : isNon (.int i) = false := rfl
@[simp] theorem x_isNonT {xs : List D} : isNon (.tup xs) = false := rfl
@[simp] theorem x_isNonL {xs : List D} : isNon (.lst xs) = false := rfl
@[simp] theorem x_isNonS {x : Str} : isNon (.str x) = false := rfl
@[simp] theorem x_isNonB {b : Bool} : isNon (.bl b) = false := rfl
@[simp] theorem x_eIsN {neg : Bool} : eIsN neg fa δ S = (rd fa δ S).bind fun d S => .ok (.pl (.bl (neg ^^ isNon d))) S := rfl
@[simp] theorem x_eChain : eChain g g' fa fb fc δ S = (rd fa δ S).bind fun x S => (rd fb δ S).bind fun y S => (lift (g x y) S).bind fun z S => (match toD z with
  | some (.bl true) => (rd fc δ S).bind fun w S => lift (g' y w) S
  | some (.bl false) => .ok (.pl (.bl false)) S
  | _ => .st) := rfl
@[simp] theorem x_fA0 : fA [] δ S = .ok [] S := rfl
@[simp] theorem x_fA1 : fA (f :: fs) δ S = (f δ S).bind fun a S => (match a with
    | .pl d => (fA fs δ S).bind fun r S => .ok (.pl d :: r) S
    | .bor xs => (fA fs δ S).bind fun r S => .ok (.bor xs :: r) S
    | .own xs => (fA fs δ S).bind fun r S => .ok (.pl (.lst xs) :: r) S
    | .od ks vs => (fA fs δ S).bind fun r S => .ok (.pl (.dct ks vs) :: r) S
    | _ => .st) := rfl
@[simp] theorem x_plA0 : plA [] = some [] := rfl
@[simp] theorem x_plA1 {r : List Sl} : plA (.pl d :: r) = (plA r).map (d :: ·) := rfl
@[simp] theorem x_plA2 {r : List Sl} {xs : List D} : plA (.bor xs :: r) = none := rfl
@[simp] theorem x_toD1 : toD (.pl d) = some d := rfl
@[simp] theorem x_toD2 {xs : List D} : toD (.own xs) = some (.lst xs) := rfl
@[simp] theorem x_toD3 {xs : List D} : toD (.bor xs) = some (.lst xs) := rfl
@[simp] theorem x_toD4 {ks vs : List D} : toD (.od ks vs) = some (.dct ks vs) := rfl
@[simp] theorem x_toP1 : toP (.pl d) = some d := rfl
@[simp] theorem x_toP2 {xs : List D} : toP (.own xs) = some (.lst xs) := rfl
@[simp] theorem x_toP3 {ks vs : List D} : toP (.od ks vs) = some (.dct ks vs) := rfl
@[simp] theorem x_toDs0 : toDs [] = some [] := rfl
@[simp] theorem x_toDs1 {a : Sl} {r : List Sl} : toDs (a :: r) = (match toD a, toDs r with
  | some d, some ds => some (d :: ds)
  | _, _ => none) := rfl
@[simp] theorem x_eTup : eTup fs δ S = (fA fs δ S).bind fun ss S => (match plA ss with
  | some ds => if ds.length ≤ cap then .ok (.pl (.tup ds)) S else .st
  | none => .st) := rfl
@[simp] theorem x_eLst : eLst fs δ S = (fA fs δ S).bind fun ss S => (match plA ss with
  | some ds => if ds.length ≤ cap then .ok (.own ds) S else .st
  | none => .st) := rfl
@[simp] theorem x_eCall : eCall k fs δ S = (fA fs δ S).bind fun ss S => (match toDs ss with
  | some ds => lift (k ds) S
  | none => .st) := rfl
@[simp] theorem x_eFn : eFn h dd fs δ S = (fA fs δ S).bind fun ss S => h (ss ++ dd.map .pl) S := rfl
@[simp] theorem x_sNx : sNx δ S = .ok (.nx δ) S := rfl
@[simp] theorem x_sSeq : sSeq s s' δ S = (s δ S).bind fun r S => (match r with
  | .nx δ => s' δ S
  | r => .ok r S) := rfl
@[simp] theorem x_sAsg : sAsg i f δ S = (f δ S).bind fun a S => (match toP a with
  | some d => if i < δ.length then .ok (.nx (δ.set i (.pl d))) S else .st
  | none => .st) := rfl
@[simp] theorem x_sOwn : sOwn i f δ S = (f δ S).bind fun a S => (match a with
  | .own xs => if i < δ.length then .ok (.nx (δ.set i (.own xs))) S else .st
  | .od ks vs => if i < δ.length then .ok (.nx (δ.set i (.od ks vs))) S else .st
  | _ => .st) := rfl
@[simp] theorem x_sExp : sExp f δ S = (f δ S).bind fun _ S => .ok (.nx δ) S := rfl
@[simp] theorem x_sIf : sIf t s s' δ S = (t δ S).bind fun b S => if b = true then s δ S else s' δ S := rfl
@[simp] theorem x_sRet : sRet f δ S = (f δ S).bind fun a S => (match a with
  | .pl d => .ok (.rt (.pl d)) S
  | .own xs => .ok (.rt (.own xs)) S
  | .od ks vs => .ok (.rt (.od ks vs)) S
  | _ => .st) := rfl
@[simp] theorem x_sRetV : sRetV i δ S = (match δ[i]? with
  | some (.pl d) => .ok (.rt (.pl d)) S
  | some (.own xs) => .ok (.rt (.own xs)) S
  | some (.od ks vs) => .ok (.rt (.od ks vs)) S
  | _ => .st) := rfl
@[simp] theorem x_setAll0 : setAll [] [] δ = some δ := rfl
@[simp] theorem x_setAll1 {is : List Nat} {ds : List D} : setAll (i :: is) (d :: ds) δ = if i < δ.length then setAll is ds (δ.set i (.pl d)) else none := rfl
@[simp] theorem x_setN : setT (.nm i) d δ = if i < δ.length then some (δ.set i (.pl d)) else none := rfl
@[simp] theorem x_setT {is : List Nat} {ds : List D} : setT (.tp is) (.tup ds) δ = setAll is ds δ := rfl
@[simp] theorem x_sUnp {tg : Tg} : sUnp tg f δ S = (f δ S).bind fun a S => (match toP a with
  | some d => (match setT tg d δ with
    | some δ' => .ok (.nx δ') S
    | none => .st)
  | none => .st) := rfl
@[simp] theorem x_itL {xs : List D} : itemsD (.lst xs) = some xs := rfl
@[simp] theorem x_itT {xs : List D} : itemsD (.tup xs) = some xs := rfl
@[simp] theorem x_itS {z : Str} : itemsD (.str z) = some (z.cps.toList.map fun c => .str ⟨#[c]⟩) := rfl
@[simp] theorem x_iE : iE f δ S = (f δ S).bind fun a S => (match toP a with
  | some d => (match itemsD d with
    | some xs => .ok xs S
    | none => .st)
  | none => .st) := rfl
@[simp] theorem x_iV : iV i δ S = (match δ[i]? with
  | some (.bor xs) => .ok xs S
  | some (.pl d) => (match itemsD d with
    | some xs => .ok xs S
    | none => .st)
  | _ => .st) := rfl
@[simp] theorem x_iVc : iVc i δ S = (match δ[i]? with
  | some (.bor xs) => .ok xs S
  | some (.own xs) => .ok xs S
  | some (.pl d) => (match itemsD d with
    | some xs => .ok xs S
    | none => .st)
  | _ => .st) := rfl
@[simp] theorem x_iEnuV : iEnuV i δ S = (match δ[i]? with
  | some (.bor xs) => .ok (enumD 0 xs) S
  | some (.pl (.lst xs)) => .ok (enumD 0 xs) S
  | some (.pl (.tup xs)) => .ok (enumD 0 xs) S
  | _ => .st) := rfl
@[simp] theorem x_sFor {tg : Tg} {fi : Fi} : sFor tg fi s δ S = (fi δ S).bind fun xs S => loop tg s xs δ S := rfl
@[simp] theorem x_slots {i : Nat} : slotsT (.nm i) = [i] := rfl
@[simp] theorem x_slotsT {is : List Nat} : slotsT (.tp is) = is := rfl
@[simp] theorem x_wipe0 : wipeD δ [] = δ := rfl
@[simp] theorem x_wipe1 {v : Nat} {vs : List Nat} : wipeD δ (v :: vs) = (wipeD δ vs).set v .no := rfl
@[simp] theorem x_eComp {tg : Tg} {fi : Fi} : eComp tg fi t f δ S = (fi δ S).bind fun xs S => if xs.length ≤ cap then (compL tg t f (wipeD δ (slotsT tg)) xs S).bind fun ys S => .ok (.own ys) S else .st := rfl
@[simp] theorem x_oNone : oNone δ S = .ok none S := rfl
@[simp] theorem x_oSome : oSome f δ S = (rd f δ S).bind fun d S => (match d with
  | .int i => .ok (some i) S
  | _ => .st) := rfl
@[simp] theorem x_eSl {lo hi : Fo} : eSl f lo hi δ S = (rd f δ S).bind fun d S => (lo δ S).bind fun l S => (hi δ S).bind fun u S => lift (slS d l u) S := rfl
@[simp] theorem x_eIsi {ts : List String} : eIsi ts f δ S = (rd f δ S).bind fun d S => lift ((isiD ts d).map fun b => .pl (.bl b)) S := rfl
@[simp] theorem x_sApp : sApp i f δ S = (match δ[i]? with
  | some (.own xs) => (f δ S).bind fun a S => (match toP a with
    | some d => if xs.length < cap then .ok (.nx (δ.set i (.own (xs ++ [d])))) S else .st
    | none => .st)
  | _ => .st) := rfl
@[simp] theorem x_sIns : sIns i fa fb δ S = (match δ[i]? with
  | some (.own xs) => (rd fa δ S).bind fun k S => (match k with
    | .int n => (fb δ S).bind fun a S => (match toP a with
      | some d => if xs.length < cap ∧ 0 ≤ n ∧ n ≤ 1000000000 then .ok (.nx (δ.set i (.own (xs.take n.toNat ++ [d] ++ xs.drop n.toNat)))) S else .st
      | none => .st)
    | _ => .st)
  | _ => .st) := rfl
@[simp] theorem x_eFld {c n : Nat} : eFld c n f δ S = (rd f δ S).bind fun d S => (match d with
  | .ins c' ds => if c' = c then lift ((ds[n]?).map .pl) S else .st
  | _ => .st) := rfl
@[simp] theorem x_eProp : eProp h fa δ S = (rd fa δ S).bind fun d S => (match h [.pl d] S with
  | .ok s S => .ok s S
  | _ => .st) := rfl
@[simp] theorem x_eRev : eRev f δ S = (rd f δ S).bind fun d S => (match d with
  | .lst xs => .ok (.own xs.reverse) S
  | _ => .st) := rfl
@[simp] theorem x_sPar : sPar i j fa fb δ S = (fA [fa, fb] δ S).bind fun ss S => (match plA ss with
  | some [a, b] => if i < δ.length ∧ j < δ.length then .ok (.nx ((δ.set i (.pl a)).set j (.pl b))) S else .st
  | _ => .st) := rfl
@[simp] theorem x_iRng1 : iRng1 fs δ S = (fA fs δ S).bind fun ss S => (match ss with
  | [.pl (.int j)] => if sm62 j then .ok (rngD 0 j) S else .st
  | _ => .st) := rfl
@[simp] theorem x_iRng2 : iRng2 fs δ S = (fA fs δ S).bind fun ss S => (match ss with
  | [.pl (.int i), .pl (.int j)] => if sm62 i && sm62 j then .ok (rngD i j) S else .st
  | _ => .st) := rfl
@[simp] theorem x_eInOwn {c : Nat} {neg : Bool} : eInOwn c neg h fa fb δ S = (fA [fa, fb] δ S).bind fun ss S => (match ss with
  | [a, .pl (.ins c' fs)] => if c' = c then (match h [.pl (.ins c fs), a] S with
    | .ok (.pl (.bl k)) S => .ok (.pl (.bl (neg ^^ k))) S
    | _ => .st) else .st
  | _ => .st) := rfl
@[simp] theorem x_eM1 : eM1 g fa fb δ S = (rd fa δ S).bind fun x S => if isS x = true then (rd fb δ S).bind fun y S => lift (g x y) S else .st := rfl
@[simp] theorem x_eDix : eDix fa fb δ S = (rd fa δ S).bind fun d S => (rd fb δ S).bind fun y S => (match d, keyO1 y with
  | .dct ks vs, some k => lift ((findD k ks vs).map .pl) S
  | _, _ => .st) := rfl
@[simp] theorem x_rd1_bor {xs : List D} : rd1 (.ok (.bor xs) S) = .ok (.lst xs) S := rfl
@[simp] theorem x_sUnpM {is : List Nat} : sUnpM is i δ S = (match δ[i]? with
  | some (.pl (.ref m)) => (match S[m]? with
    | some (.lst xs) => (match setAll is xs δ with
      | some δ' => .ok (.nx δ') S
      | none => .st)
    | _ => .st)
  | _ => .st) := rfl
@[simp] theorem x_eLenM : eLenM i δ S = (match δ[i]? with
  | some (.pl (.ref m)) => (match S[m]? with
    | some (.lst xs) => .ok (.pl (.int xs.length)) S
    | _ => .st)
  | _ => .st) := rfl
@[simp] theorem x_eIxM : eIxM i fb δ S = (match δ[i]? with
  | some (.pl (.ref m)) => (rd fb δ S).bind fun k S => (match k, S[m]? with
    | .int n, some (.lst xs) => lift ((atI xs n).map .pl) S
    | _, _ => .st)
  | _ => .st) := rfl
@[simp] theorem x_sPut : sPut i fa fb δ S = (fb δ S).bind fun a S => (match toP a with
  | none => .st
  | some d => match δ[i]? with
    | some (.own xs) => (rd fa δ S).bind fun k S => (match k with
      | .int n => (match ixN xs.length n with
        | some j => .ok (.nx (δ.set i (.own (xs.set j d)))) S
        | none => .st)
      | _ => .st)
    | some (.pl (.ref m)) => (rd fa δ S).bind fun k S => (match k, S[m]? with
      | .int n, some (.lst xs) => (match ixN xs.length n with
        | some j => .ok (.nx δ) (S.set m (.lst (xs.set j d)))
        | none => .st)
      | _, _ => .st)
    | _ => .st) := rfl
@[simp] theorem x_sRetSrc {k : Int} : sRetSrc i k δ S = (match δ[i]? with
  | some (.own xs) => .ok (.rt (.pl (.ref (S.length + 1)))) (S ++ [.lst xs, .lst [.ref S.length, .int k]])
  | _ => .st) := rfl
@[simp] theorem x_sFldM {c n : Nat} : sFldM i c n f δ S = (f δ S).bind fun a S => (match toP a with
  | some d => (match δ[i]? with
    | some (.pl (.ref m)) => (match S[m]? with
      | some (.ins c' ds) => if c' = c then (match putD ds n d with
        | some es => .ok (.nx δ) (S.set m (.ins c es))
        | none => .st) else .st
      | _ => .st)
    | _ => .st)
  | none => .st) := rfl
@[simp] theorem x_sExt : sExt i f δ S = (match δ[i]? with
  | some (.own xs) => (f δ S).bind fun a S => (match toP a with
    | some d => (match d with
      | .lst ys => if xs.length + ys.length ≤ cap then .ok (.nx (δ.set i (.own (xs ++ ys)))) S else .st
      | _ => .st)
    | none => .st)
  | _ => .st) := rfl
@[simp] theorem x_eML : eML g fa fb δ S = (rd fa δ S).bind fun x S => if isL x = true then (rd fb δ S).bind fun y S => lift (g x y) S else .st := rfl
@[simp] theorem x_isL {xs : List D} : isL (.lst xs) = true := rfl
@[simp] theorem x_iRng3 : iRng3' fs δ S = (fA fs δ S).bind fun ss S => (match ss with
  | [.pl (.int i), .pl (.int j), .pl (.int c)] => if decide (0 ≤ i) && (decide (j ≤ 1000000000) && (decide (1 ≤ c) && decide (c ≤ 1000000000) && decide (i ≤ j))) then .ok (rngS i c ((j - i + c - 1) / c).toNat) S else .st
  | _ => .st) := rfl
@[simp] theorem x_eFnF : eFnF h fs δ S = (fA fs δ S).bind fun ss S => (match h ss S with
  | .ok (.pl (.lst ds)) S' => if ss.all lfS && lfM S && lfM S' && lfA ds then .ok (.own ds) S' else .st
  | .ok (.own ds) S' => .ok (.own ds) S'
  | .ok (.pl .non) S' => .ok (.pl .non) S'
  | _ => .st) := rfl
@[simp] theorem x_sForL : sForL i fs s δ S = if notHeld (δ[i]?) = true then (fA fs δ S).bind fun ss S => if ss.length ≤ cap then (loopL i s ss (lockE δ) S).bind fun r S => (match r with
  | .nx δ' => .ok (.nx (unlkE δ δ')) S
  | .rt v => .ok (.rt v) S
  | _ => .st) else .st else .st := rfl
theorem run_rt {body : Fs} {n : Nat} {as : List Sl} {v : Sl} {S' : Ms} (e : body (as ++ List.replicate (n - as.length) .no) S = .ok (.rt v) S') : runB body n as S = .ok v S' := by
  unfold runB; rw [e]; rfl
theorem run_nx {body : Fs} {n : Nat} {as : List Sl} {δ' : Evm} {S' : Ms} (e : body (as ++ List.replicate (n - as.length) .no) S = .ok (.nx δ') S') : runB body n as S = .ok (.pl .non) S' := by
  unfold runB; rw [e]; rfl
@[simp] theorem x_add {i j : Int} : addS (.int i) (.int j) = some (.pl (.int (i + j))) := rfl
theorem x_addL {xs ys : List D} (h : xs.length + ys.length ≤ cap) : addS (.lst xs) (.lst ys) = some (.own (xs ++ ys)) := by simp only [addS, if_pos h]
@[simp] theorem x_sub {i j : Int} : subS (.int i) (.int j) = some (.pl (.int (i - j))) := rfl
theorem x_mul {i j : Int} (a : smallI i = true) (b : smallI j = true) : mulS (.int i) (.int j) = some (.pl (.int (i * j))) := by simp [mulS, a, b]
theorem x_mod {i j : Int} (h : 0 < j) : modS (.int i) (.int j) = some (.pl (.int (i % j))) := by simp [modS, h]
theorem x_fdiv {i j : Int} (h : 0 < j) (b : smallI j = true) : fdivS (.int i) (.int j) = some (.pl (.int (i / j))) := by simp [fdivS, h, b]
@[simp] theorem x_lenL {xs : List D} : lenS [.lst xs] = some (.pl (.int xs.length)) := rfl
@[simp] theorem x_lenT {xs : List D} : lenS [.tup xs] = some (.pl (.int xs.length)) := rfl
@[simp] theorem x_intI {i : Int} : intS' [.int i] = some (.pl (.int i)) := rfl
@[simp] theorem x_intB {b : Bool} : intS' [.bl b] = some (.pl (.int (if b then 1 else 0))) := rfl
@[simp] theorem x_listL {xs : List D} : listS [.lst xs] = some (.own xs) := rfl
@[simp] theorem x_listT {xs : List D} : listS [.tup xs] = some (.own xs) := rfl
@[simp] theorem x_tupL {xs : List D} : tupS [.lst xs] = some (.pl (.tup xs)) := rfl
@[simp] theorem x_tupT {xs : List D} : tupS [.tup xs] = some (.pl (.tup xs)) := rfl
@[simp] theorem x_max {i j : Int} : max2S [.int i, .int j] = some (.pl (.int (if j > i then j else i))) := rfl
@[simp] theorem x_min {i j : Int} : min2S [.int i, .int j] = some (.pl (.int (if j < i then j else i))) := rfl
@[simp] theorem x_isntB {a b : Bool} : isntBS (.bl a) (.bl b) = some (.pl (.bl (!decide (a = b)))) := rfl
@[simp] theorem x_slL {xs : List D} {lo hi : Option Int} : slS (.lst xs) lo hi = some (.own (cutD xs lo hi)) := rfl
@[simp] theorem x_slT {xs : List D} {lo hi : Option Int} : slS (.tup xs) lo hi = some (.pl (.tup (cutD xs lo hi))) := rfl
@[simp] theorem x_tyN1 {b : Bool} : tyN (.bl b) = some "bool" := rfl
@[simp] theorem x_tyN2 {b : Int} : tyN (.int b) = some "int" := rfl
@[simp] theorem x_tyN3 {b : Str} : tyN (.str b) = some "str" := rfl
@[simp] theorem x_tyN4 {b : List D} : tyN (.lst b) = some "list" := rfl
@[simp] theorem x_tyN5 {b : List D} : tyN (.tup b) = some "tuple" := rfl
@[simp] theorem x_isiD {ts : List String} {d : D} : isiD ts d = (tyN d).map fun a => ts.any (subT a) := rfl
@[simp] theorem x_subT {a b : String} : subT a b = (a == b || (a == "bool" && b == "int")) := rfl
end
theorem atI_nat {α : Type} {xs : List α} {i : Nat} {x : α} (h : xs[i]? = some x) : atI xs (i : Int) = some x := by
  have hl : i < xs.length := (List.getElem?_eq_some_iff.mp h).1
  unfold atI ixN
  simp [hl]
  exact (List.getElem?_eq_some_iff.mp h).2
end Gt
set_option Elab.async false
set_option linter.all false
set_option maxRecDepth 100000
set_option maxHeartbeats 4000000
noncomputable section
namespace Gt
open PySem PySem.Spec PyProof.Rows L2 RZ StX
def b_law_source : Fs :=
  sSeq (sOwn 1 (eSl (eV 0) (oNone) (oSome (eC (.int 63)))))
  (sSeq (sFor (.nm 2) (iRng1 [eCall lenS [eV 1]]) (sIf (tB' (eB geS (eCall absS [eB ixS (eV 1) (eV 2)]) (eB powS (eC (.int 10)) (eC (.int 18))))) (sPut 1 (eV 2) (eB modS (eCall intS' [eB ixS (eV 1) (eV 2)]) (eB powS (eB powS (eC (.int 10)) (eC (.int 60))) (eC (.int 20))))) (sNx)))
  (sSeq (sIf (tB' (eB eqS (eV 1) (eLst []))) (sOwn 1 (eLst [eC (.int 0)])) (sNx))
  (sRetSrc 1 0)))
def f_law_source : Fn := runB b_law_source 3
def b_law_draw : Fs :=
  sSeq (sUnpM [2, 3] 0)
  (sSeq (sAsg 4 (eB modS (eCall intS' [eV 3]) (eLenM 2)))
  (sSeq (sAsg 5 (eIxM 2 (eV 4)))
  (sSeq (sPut 0 (eC (.int 1)) (eB addS (eV 3) (eC (.int 1))))
  (sSeq (sIf (tB' (eB geS (eV 5) (eB powS (eC (.int 10)) (eC (.int 18))))) (sSeq (sPut 2 (eV 4) (eB fdivS (eV 5) (eV 1)))
  (sRet (eB modS (eCall intS' [eV 5]) (eV 1)))) (sNx))
  (sSeq (sAsg 6 (eB modS (eCall intS' [eB addS (eB addS (eB mulS (eB modS (eCall intS' [eV 5]) (eC (.int 2147483629))) (eC (.int 48271))) (eB mulS (eB mulS (eV 3) (eV 3)) (eC (.int 69621)))) (eC (.int 11))]) (eC (.int 2147483647))))
  (sSeq (sAsg 6 (eB modS (eCall intS' [eB mulS (eV 6) (eV 6)]) (eC (.int 2147483629))))
  (sSeq (sAsg 6 (eB modS (eCall intS' [eB mulS (eV 6) (eV 6)]) (eC (.int 2147483587))))
  (sSeq (sIf (tB' (eB gtS (eV 1) (eB powS (eC (.int 10)) (eC (.int 9))))) (sSeq (sAsg 7 (eB modS (eCall intS' [eB addS (eB addS (eB mulS (eV 6) (eC (.int 39373))) (eB mulS (eV 3) (eC (.int 7919)))) (eC (.int 500))]) (eC (.int 2147483629))))
  (sAsg 6 (eB mulS (eV 6) (eB addS (eB mulS (eB mulS (eV 7) (eV 7)) (eV 7)) (eC (.int 1)))))) (sNx))
  (sRet (eB modS (eCall intS' [eV 6]) (eV 1)))))))))))
def f_law_draw : Fn := runB b_law_draw 8
def b_law_word : Fs :=
  sRet (eM1 joinS (eC (.str (Str.ofString ""))) (eComp (.nm 2) (iRng1 [eV 1]) (tYes') (eB ixS (eC (.str (Str.ofString "abcdefghijklmnopqrstuvwxyz"))) (eFn f_law_draw [] [eV 0, eC (.int 26)]))))
def f_law_word : Fn := runB b_law_word 3
def b_law_shuffle : Fs :=
  sSeq (sOwn 2 (eLst []))
  (sSeq (sFor (.nm 3) (iV 1) (sIns 2 (eFn f_law_draw [] [eV 0, eB addS (eCall lenS [eV 2]) (eC (.int 1))]) (eV 3)))
  (sRetV 2))
def f_law_shuffle : Fn := runB b_law_shuffle 4
def b_law_owners_and_names : Fs :=
  sSeq (sAsg 1 (eLst [eC (.str (Str.ofString "a")), eC (.str (Str.ofString "an")), eC (.str (Str.ofString "b")), eC (.str (Str.ofString "bo")), eC (.str (Str.ofString "eightsig")), eC (.str (Str.ofString "eightsih")), eC (.str (Str.ofString "d")), eC (.str (Str.ofString "owners")), eC (.str (Str.ofString "zz"))]))
  (sSeq (sAsg 1 (eB addS (eV 1) (eLst [eFn f_law_word [] [eV 0, eB addS (eC (.int 4)) (eFn f_law_draw [] [eV 0, eC (.int 2)])], eFn f_law_word [] [eV 0, eC (.int 7)]])))
  (sSeq (sAsg 1 (eFn f_law_shuffle [] [eV 0, eV 1]))
  (sSeq (sAsg 2 (eB addS (eC (.int 1)) (eFn f_law_draw [] [eV 0, eC (.int 4)])))
  (sRet (eTup [eSl (eV 1) (oNone) (oSome (eV 2)), eSl (eV 1) (oSome (eV 2)) (oSome (eB addS (eB addS (eV 2) (eC (.int 2))) (eFn f_law_draw [] [eV 0, eC (.int 5)])))])))))
def f_law_owners_and_names : Fn := runB b_law_owners_and_names 3
def b_law_pick : Fs :=
  sRet (eB ixS (eV 1) (eFn f_law_draw [] [eV 0, eCall lenS [eV 1]]))
def f_law_pick : Fn := runB b_law_pick 2
def b_law_entries : Fs :=
  sSeq (sAsg 4 (eB ixS (eLst [eC (.int 2), eC (.int 4), eC (.int 12), eB powS (eC (.int 10)) (eC (.int 30))]) (eFn f_law_draw [] [eV 0, eC (.int 4)])))
  (sSeq (sAsg 5 (eB ixS (eLst [eC (.int 1), eC (.int 3), eC (.int 20)]) (eFn f_law_draw [] [eV 0, eC (.int 3)])))
  (sSeq (sOwn 6 (eLst []))
  (sSeq (sFor (.nm 7) (iRng1 [eFn f_law_draw [] [eV 0, eB addS (eV 3) (eC (.int 1))]]) (sSeq (sAsg 8 (eFn f_law_pick [] [eV 0, eV 2]))
  (sSeq (sAsg 9 (eComp (.nm 16) (iE (eB addS (eV 1) (eV 2))) (tB' (eB neS (eV 16) (eV 8))) (eV 16)))
  (sSeq (sAsg 10 (eB subS (eFn f_law_draw [] [eV 0, eB addS (eB mulS (eC (.int 2)) (eV 4)) (eC (.int 1))]) (eV 4)))
  (sSeq (sPar 11 12 (eB addS (eC (.int 1)) (eFn f_law_draw [] [eV 0, eC (.int 9)])) (eFn f_law_draw [] [eV 0, eB addS (eV 5) (eC (.int 1))]))
  (sSeq (sAsg 13 (eFn f_law_pick [] [eV 0, eV 9]))
  (sSeq (sIf (tAnd' (tB' (eB neS (eV 6) (eLst []))) (tB' (eB gtS (eFn f_law_draw [] [eV 0, eC (.int 3)]) (eC (.int 0))))) (sSeq (sAsg 14 (eFn f_law_pick [] [eV 0, eV 6]))
  (sIf (tB' (eB neS (eB ixS (eV 14) (eC (.int 2))) (eV 8))) (sSeq (sAsg 13 (eB ixS (eV 14) (eC (.int 2))))
  (sSeq (sAsg 11 (eB addS (eC (.int 1)) (eFn f_law_draw [] [eV 0, eB ixS (eV 14) (eC (.int 3))])))
  (sSeq (sAsg 12 (eFn f_law_draw [] [eV 0, eB addS (eB ixS (eV 14) (eC (.int 4))) (eC (.int 1))]))
  (sAsg 10 (eCall min2S [eB addS (eB ixS (eV 14) (eC (.int 0))) (eFn f_law_draw [] [eV 0, eC (.int 3)]), eB powS (eC (.int 10)) (eC (.int 30))]))))) (sNx))) (sNx))
  (sSeq (sAsg 15 (eTup [eV 10, eV 13, eV 8, eV 11, eV 12]))
  (sIf (tB' (eB notInS (eV 15) (eV 6))) (sApp 6 (eV 15)) (sNx))))))))))
  (sRetV 6))))
def f_law_entries : Fn := runB b_law_entries 17
def b_is_name : Fs :=
  sRet (eAnd (eIsi ["str"] (eV 0)) (eAnd (eChain leS leS (eC (.int 1)) (eCall lenS [eV 0]) (eC (.int 8))) (eCall allS [eComp (.nm 1) (iVc 0) (tYes') (eB inS (eV 1) (eC (.str (Str.ofString "abcdefghijklmnopqrstuvwxyz"))))])))
def f_is_name : Fn := runB b_is_name 2
def b_is_integer : Fs :=
  sRet (eAnd (eIsi ["int"] (eV 0)) (eNotT (eIsi ["bool"] (eV 0))))
def f_is_integer : Fn := runB b_is_integer 1
def b_is_time : Fs :=
  sRet (eAnd (eFn f_is_integer [] [eV 0]) (eChain leS leS (eNeg (eC (.int 1000000000000000000000000000000))) (eV 0) (eC (.int 1000000000000000000000000000000))))
def f_is_time : Fn := runB b_is_time 1
def b_is_level : Fs :=
  sRet (eAnd (eFn f_is_integer [] [eV 0]) (eChain leS leS (eC (.int 1)) (eV 0) (eC (.int 9))))
def f_is_level : Fn := runB b_is_level 1
def b_is_passes : Fs :=
  sRet (eAnd (eFn f_is_integer [] [eV 0]) (eChain leS leS (eC (.int 0)) (eV 0) (eC (.int 20))))
def f_is_passes : Fn := runB b_is_passes 1
def b_grant_error : Fs :=
  sSeq (sIf (tOr' (tNot' (tV (eIsi ["tuple"] (eV 0)))) (tB' (eB neS (eCall lenS [eV 0]) (eC (.int 5))))) (sRet (eTup [eC (.str (Str.ofString "grant"))])) (sNx))
  (sSeq (sUnp (.tp [1, 2, 3, 4, 5]) (eV 0))
  (sSeq (sIf (tNot' (tV (eFn f_is_time [] [eV 1]))) (sRet (eTup [eC (.str (Str.ofString "time"))])) (sNx))
  (sSeq (sIf (tNot' (tV (eFn f_is_name [] [eV 2]))) (sRet (eTup [eC (.str (Str.ofString "giver"))])) (sNx))
  (sSeq (sIf (tNot' (tV (eFn f_is_name [] [eV 3]))) (sRet (eTup [eC (.str (Str.ofString "taker"))])) (sNx))
  (sSeq (sIf (tB' (eB eqS (eV 2) (eV 3))) (sRet (eTup [eC (.str (Str.ofString "same"))])) (sNx))
  (sSeq (sIf (tNot' (tV (eFn f_is_level [] [eV 4]))) (sRet (eTup [eC (.str (Str.ofString "level"))])) (sNx))
  (sRet (eIf (tV (eFn f_is_passes [] [eV 5])) (eC .non) (eTup [eC (.str (Str.ofString "passes"))])))))))))
def f_grant_error : Fn := runB b_grant_error 6
def b_roll_error : Fs :=
  sSeq (sIf (tNot' (tB' (eChain leS leS (eC (.int 1)) (eCall lenS [eV 0]) (eC (.int 4))))) (sRet (eTup [eC (.str (Str.ofString "owners"))])) (sNx))
  (sSeq (sFor (.tp [3, 4]) (iEnuV 0) (sIf (tOr' (tNot' (tV (eFn f_is_name [] [eV 4]))) (tB' (eB inS (eV 4) (eSl (eV 0) (oNone) (oSome (eV 3)))))) (sRet (eTup [eC (.str (Str.ofString "owner")), eV 3])) (sNx)))
  (sSeq (sIf (tOr' (tNot' (tV (eIsi ["list", "tuple"] (eV 1)))) (tB' (eB gtS (eCall lenS [eV 1]) (eV 2)))) (sRet (eTup [eC (.str (Str.ofString "grants"))])) (sNx))
  (sSeq (sFor (.tp [3, 5]) (iEnuV 1) (sSeq (sAsg 6 (eFn f_grant_error [] [eV 5]))
  (sSeq (sIf (tB' (eIsN true (eV 6))) (sRet (eTup [eC (.str (Str.ofString "grant")), eV 3, eV 6])) (sNx))
  (sSeq (sIf (tB' (eB inS (eB ixS (eV 5) (eC (.int 2))) (eV 0))) (sRet (eTup [eC (.str (Str.ofString "owned")), eV 3])) (sNx))
  (sIf (tB' (eB inS (eV 5) (eSl (eV 1) (oNone) (oSome (eV 3))))) (sRet (eTup [eC (.str (Str.ofString "repeated")), eV 3])) (sNx))))))
  (sRet (eC .non)))))
def f_roll_error : Fn := runB b_roll_error 7
def b_Roll_init : Fs :=
  sSeq (sAsg 3 (eFn f_roll_error [] [eV 2, eV 1, eC (.int 60)]))
  (sSeq (sIf (tB' (eIsN true (eV 3))) (sNever) (sNx))
  (sSeq (sFldM 0 0 0 (eCall tupS [eCall sortS [eV 2]]))
  (sFldM 0 0 1 (eCall tupS [eCall sortS [eV 1]]))))
def f_Roll_init : Fn := runB b_Roll_init 4
def b_law_make : Fs :=
  sSeq (sIf (tB' (eB eqS (eCall lenS [eV 0]) (eC (.int 1)))) (sRet (eMake 0 f_Roll_init [eB ixS (eV 0) (eC (.int 0))] (eV 1))) (sNx))
  (sSeq (sIf (tB' (eB eqS (eCall lenS [eV 0]) (eC (.int 2)))) (sRet (eMake 0 f_Roll_init [eB ixS (eV 0) (eC (.int 0)), eB ixS (eV 0) (eC (.int 1))] (eV 1))) (sNx))
  (sSeq (sIf (tB' (eB eqS (eCall lenS [eV 0]) (eC (.int 3)))) (sRet (eMake 0 f_Roll_init [eB ixS (eV 0) (eC (.int 0)), eB ixS (eV 0) (eC (.int 1)), eB ixS (eV 0) (eC (.int 2))] (eV 1))) (sNx))
  (sRet (eMake 0 f_Roll_init [eB ixS (eV 0) (eC (.int 0)), eB ixS (eV 0) (eC (.int 1)), eB ixS (eV 0) (eC (.int 2)), eB ixS (eV 0) (eC (.int 3))] (eV 1)))))
def f_law_make : Fn := runB b_law_make 2
def b_Roll_grants : Fs :=
  sRet (eFld 0 1 (eV 0))
def f_Roll_grants : Fn := runB b_Roll_grants 1
theorem k_Roll_grants : ∀ d S s S', f_Roll_grants [.pl d] S = .ok s S' → ∃ ds, d = .ins 0 ds := prop_ins
def b_is_support : Fs :=
  sSeq (sUnp (.tp [2, 3, 4, 5, 6]) (eV 0))
  (sSeq (sIf (tOr' (tB' (eB neS (eV 4) (eB ixS (eV 1) (eC (.int 1))))) (tB' (eB geS (eV 2) (eB ixS (eV 1) (eC (.int 0)))))) (sRet (eC (.bl false))) (sNx))
  (sRet (eAnd (eB geS (eV 5) (eB ixS (eV 1) (eC (.int 3)))) (eB gtS (eV 6) (eB ixS (eV 1) (eC (.int 4)))))))
def f_is_support : Fn := runB b_is_support 7
def b_counts_in : Fs :=
  sSeq (sOwn 2 (eLst []))
  (sSeq (sFor (.nm 3) (iE (eCall sortS [eV 1])) (sIf (tOr' (tB' (eB inS (eB ixS (eV 3) (eC (.int 1))) (eV 0))) (tV (eCall anyS [eComp (.nm 4) (iVc 2) (tYes') (eFn f_is_support [] [eV 4, eV 3])]))) (sApp 2 (eV 3)) (sNx)))
  (sRetV 2))
def f_counts_in : Fn := runB b_counts_in 5
def b_Roll_owners : Fs :=
  sRet (eFld 0 0 (eV 0))
def f_Roll_owners : Fn := runB b_Roll_owners 1
theorem k_Roll_owners : ∀ d S s S', f_Roll_owners [.pl d] S = .ok s S' → ∃ ds, d = .ins 0 ds := prop_ins
def b_rest_for : Fs :=
  sRet (eComp (.nm 2) (iE (eProp f_Roll_grants (eV 0))) (tOr' (tB' (eB neS (eB ixS (eV 2) (eC (.int 2))) (eB ixS (eV 1) (eC (.int 2))))) (tB' (eB geS (eB ixS (eV 2) (eC (.int 0))) (eB ixS (eV 1) (eC (.int 0)))))) (eV 2))
def f_rest_for : Fn := runB b_rest_for 3
def b_is_useful : Fs :=
  sRet (eB inS (eV 1) (eFn f_counts_in [] [eProp f_Roll_owners (eV 0), eFn f_rest_for [] [eV 0, eV 1]]))
def f_is_useful : Fn := runB b_is_useful 2
def b_core : Fs :=
  sRet (eComp (.nm 1) (iE (eProp f_Roll_grants (eV 0))) (tV (eFn f_is_useful [] [eV 0, eV 1])) (eV 1))
def f_core : Fn := runB b_core 2
def b_Roll_contains : Fs :=
  sRet (eAnd (eIsN false (eFn f_grant_error [] [eV 1])) (eB inS (eV 1) (eFld 0 1 (eV 0))))
def f_Roll_contains : Fn := runB b_Roll_contains 2
def b_check_member : Fs :=
  sIf (tB' (eInOwn 0 true f_Roll_contains (eV 1) (eV 0))) (sNever) (sNx)
def f_check_member : Fn := runB b_check_member 2
def b_check_members : Fs :=
  sSeq (sIf (tNot' (tV (eIsi ["list", "tuple"] (eV 1)))) (sNever) (sNx))
  (sFor (.nm 2) (iV 1) (sExp (eFn f_check_member [] [eV 0, eV 2])))
def f_check_members : Fn := runB b_check_members 3
def b_Roll_only : Fs :=
  sSeq (sExp (eFn f_check_members [] [eV 0, eV 1]))
  (sSeq (sAsg 2 (eComp (.nm 3) (iE (eFld 0 1 (eV 0))) (tB' (eB inS (eV 3) (eV 1))) (eV 3)))
  (sRet (eMakeS 0 f_Roll_init (eFld 0 0 (eV 0)) (eV 2))))
def f_Roll_only : Fn := runB b_Roll_only 4
def b_Roll_persons : Fs :=
  sSeq (sAsg 1 (eSc2 (.tp [2, 3, 4, 5, 6]) (iE (eFld 0 1 (eV 0))) (.nm 7) (iE (eTup [eV 3, eV 4])) (eV 7)))
  (sRet (eCall tupS [eComp (.nm 7) (iVc 1) (tB' (eB notInS (eV 7) (eFld 0 0 (eV 0)))) (eV 7)]))
def f_Roll_persons : Fn := runB b_Roll_persons 8
theorem k_Roll_persons : ∀ d S s S', f_Roll_persons [.pl d] S = .ok s S' → ∃ ds, d = .ins 0 ds := prop_insP
def b_check_name : Fs :=
  sIf (tNot' (tV (eFn f_is_name [] [eV 0]))) (sNever) (sNx)
def f_check_name : Fn := runB b_check_name 1
def b_counting_grants : Fs :=
  sRet (eFn f_counts_in [] [eProp f_Roll_owners (eV 0), eProp f_Roll_grants (eV 0)])
def f_counting_grants : Fn := runB b_counting_grants 1
def b_taken : Fs :=
  sRet (eComp (.nm 2) (iE (eFn f_counting_grants [] [eV 0])) (tB' (eB eqS (eB ixS (eV 2) (eC (.int 2))) (eV 1))) (eV 2))
def f_taken : Fn := runB b_taken 3
def b_covers : Fs :=
  sRet (eAnd (eB geS (eB ixS (eV 0) (eC (.int 0))) (eB ixS (eV 1) (eC (.int 0)))) (eB geS (eB ixS (eV 0) (eC (.int 1))) (eB ixS (eV 1) (eC (.int 1)))))
def f_covers : Fn := runB b_covers 2
def b_maximal : Fs :=
  sSeq (sAsg 1 (eCall sortSetP [eV 0]))
  (sRet (eComp (.nm 2) (iVc 1) (tNot' (tV (eCall anyS [eComp (.nm 3) (iVc 1) (tYes') (eAnd (eB neS (eV 3) (eV 2)) (eFn f_covers [] [eV 3, eV 2]))]))) (eV 2)))
def f_maximal : Fn := runB b_maximal 4
def b_powers_in : Fs :=
  sRet (eFn f_maximal [] [eComp (.nm 2) (iVc 0) (tOr' (tB' (eIsN false (eV 1))) (tB' (eB leS (eB ixS (eV 2) (eC (.int 0))) (eV 1)))) (eSl (eV 2) (oSome (eC (.int 3))) (oNone))])
def f_powers_in : Fn := runB b_powers_in 3
def b_steps_of : Fs :=
  sSeq (sExp (eFn f_check_name [] [eV 1]))
  (sSeq (sAsg 2 (eFn f_taken [] [eV 0, eV 1]))
  (sSeq (sOwn 3 (eLst []))
  (sSeq (sFor (.nm 4) (iE (eSc1 (.nm 6) (iVc 2) (tYes') (eB ixS (eV 6) (eC (.int 0))))) (sSeq (sAsg 5 (eFn f_powers_in [] [eV 2, eV 4]))
  (sIf (tOr' (tB' (eB eqS (eV 3) (eLst []))) (tB' (eB neS (eV 5) (eB ixS (eB ixS (eV 3) (eNeg (eC (.int 1)))) (eC (.int 1)))))) (sApp 3 (eTup [eV 4, eV 5])) (sNx))))
  (sRetV 3))))
def f_steps_of : Fn := runB b_steps_of 7
def b_law_is_same : Fs :=
  sSeq (sAsg 2 (eCall sortSetS [eB addS (eProp f_Roll_persons (eV 0)) (eProp f_Roll_persons (eV 1))]))
  (sRet (eB eqS (eComp (.nm 3) (iVc 2) (tB' (eB neS (eFn f_steps_of [] [eV 0, eV 3]) (eFn f_steps_of [] [eV 1, eV 3]))) (eV 3)) (eLst [])))
def f_law_is_same : Fn := runB b_law_is_same 4
def b_chain_in : Fs :=
  sSeq (sOwn 3 (eDnew))
  (sSeq (sFor (.nm 4) (iE (eCall sortS [eV 1])) (sSeq (sOwn 5 (eCompD 3 (.nm 6) (tV (eFn f_is_support [] [eV 6, eV 4])) (eB addS (eDk 3 (eV 6)) (eLst [eV 4]))))
  (sSeq (sIf (tB' (eB inS (eB ixS (eV 4) (eC (.int 1))) (eV 0))) (sApp 5 (eLst [eV 4])) (sNx))
  (sIf (tB' (eB neS (eV 5) (eLst []))) (sDPutT 3 (eV 4) (eCall minS [eV 5])) (sNx)))))
  (sRet (eGet 3 (eV 2))))
def f_chain_in : Fn := runB b_chain_in 7
def b_useful_paper : Fs :=
  sSeq (sExp (eFn f_check_members [] [eV 0, eLst [eV 1]]))
  (sSeq (sAsg 2 (eFn f_rest_for [] [eV 0, eV 1]))
  (sSeq (sAsg 3 (eFn f_chain_in [] [eProp f_Roll_owners (eV 0), eV 2, eV 1]))
  (sRet (eIf (tB' (eIsN false (eV 3))) (eTup [eC (.str (Str.ofString "idle")), eFn f_counts_in [] [eProp f_Roll_owners (eV 0), eV 2]]) (eTup [eC (.str (Str.ofString "useful")), eV 3])))))
def f_useful_paper : Fn := runB b_useful_paper 4
def b_law_matters : Fs :=
  sSeq (sUnp (.tp [2, 3]) (eFn f_useful_paper [] [eV 0, eV 1]))
  (sSeq (sIf (tB' (eB neS (eV 2) (eC (.str (Str.ofString "useful"))))) (sRet (eC (.bl false))) (sNx))
  (sSeq (sPar 4 5 (eMeth f_Roll_only (eV 0) [eV 3]) (eMeth f_Roll_only (eV 0) [eComp (.nm 6) (iVc 3) (tB' (eB neS (eV 6) (eV 1))) (eV 6)]))
  (sRet (eB neS (eFn f_steps_of [] [eV 4, eB ixS (eV 1) (eC (.int 2))]) (eFn f_steps_of [] [eV 5, eB ixS (eV 1) (eC (.int 2))])))))
def f_law_matters : Fn := runB b_law_matters 7
def b_check_owners_cores : Fs :=
  sIf (tB' (eB neS (eProp f_Roll_owners (eV 0)) (eProp f_Roll_owners (eV 1)))) (sNever) (sNx)
def f_check_owners_cores : Fn := runB b_check_owners_cores 2
def b_gives_no_more : Fs :=
  sSeq (sExp (eFn f_check_owners_cores [] [eV 0, eV 1]))
  (sSeq (sFor (.nm 2) (iE (eFn f_core [] [eV 0])) (sIf (tB' (eB notInS (eV 2) (eProp f_Roll_grants (eV 1)))) (sRet (eCall sortS [eFn f_chain_in [] [eProp f_Roll_owners (eV 0), eFn f_rest_for [] [eV 0, eV 2], eV 2]])) (sNx)))
  (sRet (eC .non)))
def f_gives_no_more : Fn := runB b_gives_no_more 3
def b_same_under_revoking : Fs :=
  sSeq (sAsg 2 (eFn f_gives_no_more [] [eV 0, eV 1]))
  (sRet (eIf (tB' (eIsN false (eV 2))) (eFn f_gives_no_more [] [eV 1, eV 0]) (eV 2)))
def f_same_under_revoking : Fn := runB b_same_under_revoking 3
def b_law : Fs :=
  sSeq (sAsg 1 (eFn f_law_source [] [eV 0]))
  (sSeq (sFor (.nm 2) (iRng1 [eC (.int 4)]) (sSeq (sUnp (.tp [3, 4]) (eFn f_law_owners_and_names [] [eV 1]))
  (sSeq (sAsg 5 (eFn f_law_entries [] [eV 1, eV 3, eV 4, eC (.int 16)]))
  (sSeq (sAsg 6 (eFn f_law_make [] [eV 3, eV 5]))
  (sSeq (sAsg 7 (eFn f_core [] [eV 6]))
  (sSeq (sAsg 8 (eMeth f_Roll_only (eV 6) [eV 7]))
  (sSeq (sIf (tOr' (tB' (eB neS (eFn f_core [] [eV 8]) (eV 7))) (tNot' (tV (eFn f_law_is_same [] [eV 6, eV 8])))) (sRet (eC (.bl false))) (sNx))
  (sSeq (sIf (tB' (eB neS (eComp (.nm 12) (iVc 7) (tNot' (tV (eFn f_law_matters [] [eV 6, eV 12]))) (eV 12)) (eLst []))) (sRet (eC (.bl false))) (sNx))
  (sSeq (sIf (tOr' (tB' (eIsN true (eFn f_same_under_revoking [] [eV 6, eV 8]))) (tB' (eIsN true (eFn f_same_under_revoking [] [eV 8, eV 6])))) (sRet (eC (.bl false))) (sNx))
  (sSeq (sFor (.nm 9) (iRng1 [eC (.int 4)]) (sSeq (sAsg 10 (eComp (.nm 12) (iE (eProp f_Roll_grants (eV 6))) (tB' (eB gtS (eFn f_law_draw [] [eV 1, eC (.int 3)]) (eC (.int 0)))) (eV 12)))
  (sSeq (sIf (tNot' (tV (eFn f_law_is_same [] [eMeth f_Roll_only (eV 6) [eV 10], eMeth f_Roll_only (eV 6) [eComp (.nm 12) (iVc 10) (tB' (eB inS (eV 12) (eV 7))) (eV 12)]]))) (sRet (eC (.bl false))) (sNx))
  (sSeq (sAsg 11 (eMeth f_Roll_only (eV 6) [eB addS (eV 7) (eComp (.nm 12) (iE (eProp f_Roll_grants (eV 6))) (tB' (eB eqS (eFn f_law_draw [] [eV 1, eC (.int 2)]) (eC (.int 0)))) (eV 12))]))
  (sIf (tOr' (tB' (eB neS (eFn f_core [] [eV 11]) (eV 7))) (tNot' (tV (eFn f_law_is_same [] [eV 11, eV 8])))) (sRet (eC (.bl false))) (sNx))))))
  (sIf (tB' (eB neS (eCall listS [eProp f_Roll_grants (eV 6)]) (eCall sortS [eV 5]))) (sRet (eC (.bl false))) (sNx))))))))))))
  (sRet (eC (.bl true))))
def f_law : Fn := runB b_law 13
end Gt
set_option Elab.async false
set_option linter.all false
set_option maxRecDepth 100000
set_option maxHeartbeats 1000000
namespace Gt
open PySem PySem.Spec PyProof.Rows L2
def St (cs : List Int) (t : Int) : Ms := [.lst (cs.map .int), .lst [.ref 0, .int t]]
def big : Int := 10 ^ 1200
theorem big_lt : big.natAbs < 2 ^ 9000 := by decide +kernel
structure GenC (n : Nat) (cs : List Int) (t : Int) : Prop where
  ne : cs ≠ []
  lo : ∀ c ∈ cs, -1000000000000000000 < c
  hi : ∀ c ∈ cs, c < big
  t0 : 0 ≤ t
  t1 : t ≤ n
def Gen (n : Nat) (S : Ms) : Prop := ∃ cs t, S = St cs t ∧ GenC n cs t
theorem Gen.mono {n m : Nat} {S : Ms} (h : Gen n S) (l : n ≤ m) : Gen m S := by
  obtain ⟨cs, t, e, h1, h2, h3, h4, h5⟩ := h
  exact ⟨cs, t, e, h1, h2, h3, h4, by omega⟩
theorem big_le : (1000000000000000000 : Int) ≤ big := by decide +kernel
theorem small_of {i : Int} (h : -1000000000000000000 < i) (h2 : i < big) : smallI i = true := by
  unfold smallI
  refine decide_eq_true (Nat.lt_of_le_of_lt ?_ big_lt)
  have : (1000000000000000000 : Int) ≤ big := by decide +kernel
  omega
theorem small_le {i : Int} (h : -1000000000000000000 < i) (h2 : i < 1000000000000000000) : smallI i = true := small_of h (Int.lt_of_lt_of_le h2 big_le)
theorem pow18 : powS (.int 10) (.int 18) = some (.pl (.int 1000000000000000000)) := by rfl
theorem pow9 : powS (.int 10) (.int 9) = some (.pl (.int 1000000000)) := by rfl
theorem mul_in {a b A B : Int} (a0 : 0 ≤ a) (aA : a ≤ A) (b0 : 0 ≤ b) (bB : b ≤ B) : 0 ≤ a * b ∧ a * b ≤ A * B := ⟨Int.mul_nonneg a0 b0, Int.mul_le_mul aA bB b0 (by omega)⟩
theorem small_in {i : Int} (h : 0 ≤ i) (h2 : i ≤ 10 ^ 100) : smallI i = true := small_of (by omega) (Int.lt_of_le_of_lt h2 (by decide +kernel))
theorem draw_ok {n : Nat} {S : Ms} {k : Int} (h : Gen n S) (hn : n ≤ 100000000) (hk : 1 ≤ k) (hk2 : k ≤ 10 ^ 40) : ∃ r S', f_law_draw [.pl (.ref 1), .pl (.int k)] S = .ok (.pl (.int r)) S' ∧ 0 ≤ r ∧ r < k ∧ Gen (n + 1) S' := by
  obtain ⟨cs, t, rfl, h1, h2, h3, h4, h5⟩ := h
  have hL : 0 < (cs.length : Int) := by have := List.length_pos_iff.mpr h1; omega
  have w0 : 0 ≤ t % (cs.length : Int) := Int.emod_nonneg _ (by omega)
  have w1 : t % (cs.length : Int) < cs.length := Int.emod_lt_of_pos _ hL
  obtain ⟨j, hj⟩ : ∃ j : Nat, t % (cs.length : Int) = j := ⟨(t % (cs.length : Int)).toNat, by omega⟩
  have jl : j < cs.length := by omega
  have hc : atI (cs.map D.int) (j : Int) = some (.int cs[j]) := atI_nat (by simp [jl])
  have hx : ixN cs.length (j : Int) = some j := by unfold ixN; simp [jl]
  have hi2 : ixN 2 1 = some 1 := rfl
  have c1 := h2 cs[j] (List.getElem_mem jl)
  have c2 := h3 cs[j] (List.getElem_mem jl)
  have st : t * t < 100000000000000000 := by
    have : t * t ≤ 100000000 * 100000000 := Int.mul_le_mul (by omega) (by omega) h4 (by decide)
    omega
  have st0 : 0 ≤ t * t := Int.mul_nonneg h4 h4
  have sk : smallI k = true := small_in (by omega) (Int.le_trans hk2 (by decide +kernel))
  have stt : smallI t = true := small_le (by omega) (by omega)
  by_cases hb : 1000000000000000000 ≤ cs[j]
  · refine ⟨cs[j] % k, St (cs.set j (cs[j] / k)) (t + 1), run_rt (v := .pl (.int (cs[j] % k))) ?_, Int.emod_nonneg _ (by omega), Int.emod_lt_of_pos _ (by omega), ⟨_, _, rfl, ?_, ?_, ?_, by omega, by omega⟩⟩
    · show b_law_draw [.pl (.ref 1), .pl (.int k), .no, .no, .no, .no, .no, .no] _ = _
      simp [b_law_draw, St, x_mod hL, hj, hc, hx, pow18, hb, x_fdiv (show 0 < k by omega) sk, x_mod (show 0 < k by omega), List.map_set, hi2]
    · intro z; exact h1 (by simpa using congrArg List.length z)
    · intro c hc'
      rcases List.mem_or_eq_of_mem_set hc' with q | q
      · exact h2 c q
      · have := Int.ediv_nonneg (show 0 ≤ cs[j] by omega) (show 0 ≤ k by omega); omega
    · intro c hc'
      rcases List.mem_or_eq_of_mem_set hc' with q | q
      · exact h3 c q
      · have := Int.ediv_le_self k (show 0 ≤ cs[j] by omega); omega
  · have m1 := Int.emod_nonneg cs[j] (show (2147483629 : Int) ≠ 0 by decide)
    have m2 := Int.emod_lt_of_pos cs[j] (show (0 : Int) < 2147483629 by decide)
    generalize ea : (cs[j] % 2147483629 * 48271 + t * t * 69621 + 11) % 2147483647 = a
    have a1 : 0 ≤ a := by rw [← ea]; exact Int.emod_nonneg _ (by decide)
    have a2 : a < 2147483647 := by rw [← ea]; exact Int.emod_lt_of_pos _ (by decide)
    generalize eb : a * a % 2147483629 = b
    have b1 : 0 ≤ b := by rw [← eb]; exact Int.emod_nonneg _ (by decide)
    have b2 : b < 2147483629 := by rw [← eb]; exact Int.emod_lt_of_pos _ (by decide)
    generalize ec : b * b % 2147483587 = c
    have c1' : 0 ≤ c := by rw [← ec]; exact Int.emod_nonneg _ (by decide)
    have c2' : c < 2147483587 := by rw [← ec]; exact Int.emod_lt_of_pos _ (by decide)
    generalize eo : (c * 39373 + t * 7919 + 500) % 2147483629 = o
    have o1 : 0 ≤ o := by rw [← eo]; exact Int.emod_nonneg _ (by decide)
    have o2 : o < 2147483629 := by rw [← eo]; exact Int.emod_lt_of_pos _ (by decide)
    have sa : smallI a = true := small_le (by omega) (by omega)
    have sb : smallI b = true := small_le (by omega) (by omega)
    have sc : smallI c = true := small_le (by omega) (by omega)
    have so : smallI o = true := small_le (by omega) (by omega)
    have q2 := mul_in o1 (show o ≤ 2147483629 by omega) o1 (show o ≤ 2147483629 by omega)
    have q3 := mul_in q2.1 q2.2 o1 (show o ≤ 2147483629 by omega)
    have soo : smallI (o * o) = true := small_in q2.1 (Int.le_trans q2.2 (by decide +kernel))
    have sooo : smallI (o * o * o + 1) = true := small_in (by omega) (Int.le_trans (show o * o * o + 1 ≤ 2147483629 * 2147483629 * 2147483629 + 1 by omega) (by decide +kernel))
    have sm : smallI (cs[j] % 2147483629) = true := small_le (by omega) (by omega)
    have s1 : smallI 48271 = true := by decide +kernel
    have s2 : smallI 69621 = true := by decide +kernel
    have s3 : smallI 39373 = true := by decide +kernel
    have s4 : smallI 7919 = true := by decide +kernel
    have stt2 : smallI (t * t) = true := small_le (by omega) (by omega)
    have z1 : modS (.int cs[j]) (.int 2147483629) = some (.pl (.int (cs[j] % 2147483629))) := x_mod (by decide)
    have z2 : modS (.int (cs[j] % 2147483629 * 48271 + t * t * 69621 + 11)) (.int 2147483647) = some (.pl (.int a)) := by rw [x_mod (by decide), ea]
    have z3 : modS (.int (a * a)) (.int 2147483629) = some (.pl (.int b)) := by rw [x_mod (by decide), eb]
    have z4 : modS (.int (b * b)) (.int 2147483587) = some (.pl (.int c)) := by rw [x_mod (by decide), ec]
    have z5 : modS (.int (c * 39373 + t * 7919 + 500)) (.int 2147483629) = some (.pl (.int o)) := by rw [x_mod (by decide), eo]
    by_cases hk9 : 1000000000 < k
    · refine ⟨c * (o * o * o + 1) % k, St cs (t + 1), run_rt (v := .pl (.int (c * (o * o * o + 1) % k))) ?_, Int.emod_nonneg _ (by omega), Int.emod_lt_of_pos _ (by omega), ⟨_, _, rfl, h1, h2, h3, by omega, by omega⟩⟩
      show b_law_draw [.pl (.ref 1), .pl (.int k), .no, .no, .no, .no, .no, .no] _ = _
      simp [b_law_draw, St, x_mod hL, hj, hc, hx, pow18, pow9, hb, hk9, z1, z2, z3, z4, z5, x_mul sm s1, x_mul stt stt, x_mul stt2 s2, x_mul sa sa, x_mul sb sb, x_mul sc s3, x_mul stt s4, x_mul so so, x_mul soo so, x_mul sc sooo, x_mod (show 0 < k by omega), hi2]
    · refine ⟨c % k, St cs (t + 1), run_rt (v := .pl (.int (c % k))) ?_, Int.emod_nonneg _ (by omega), Int.emod_lt_of_pos _ (by omega), ⟨_, _, rfl, h1, h2, h3, by omega, by omega⟩⟩
      show b_law_draw [.pl (.ref 1), .pl (.int k), .no, .no, .no, .no, .no, .no] _ = _
      simp [b_law_draw, St, x_mod hL, hj, hc, hx, pow18, pow9, hb, hk9, z1, z2, z3, z4, x_mul sm s1, x_mul stt stt, x_mul stt2 s2, x_mul sa sa, x_mul sb sb, x_mod (show 0 < k by omega), hi2]
theorem pick_ok {n : Nat} {S : Ms} {xs : List D} (h : Gen n S) (hn : n ≤ 100000000) (hk : xs ≠ []) (hk2 : xs.length ≤ 1000000) : ∃ x S', f_law_pick [.pl (.ref 1), .pl (.lst xs)] S = .ok (.pl x) S' ∧ x ∈ xs ∧ Gen (n + 1) S' := by
  have hL := List.length_pos_iff.mpr hk
  obtain ⟨r, S', e, r0, r1, g⟩ := draw_ok (k := xs.length) h hn (by omega) (by omega)
  obtain ⟨j, rfl⟩ : ∃ j : Nat, r = j := ⟨r.toNat, by omega⟩
  have jl : j < xs.length := by omega
  refine ⟨xs[j], S', run_rt ?_, List.getElem_mem jl, g⟩
  show b_law_pick [.pl (.ref 1), .pl (.lst xs)] _ = _
  simp [b_law_pick, e, ixS, atI_nat (show xs[j]? = some xs[j] by simp [jl])]
theorem pickB_ok {n : Nat} {S : Ms} {xs : List D} (h : Gen n S) (hn : n ≤ 100000000) (hk : xs ≠ []) (hk2 : xs.length ≤ 1000000) : ∃ x S', f_law_pick [.pl (.ref 1), .bor xs] S = .ok (.pl x) S' ∧ x ∈ xs ∧ Gen (n + 1) S' := by
  have hL := List.length_pos_iff.mpr hk
  obtain ⟨r, S', e, r0, r1, g⟩ := draw_ok (k := xs.length) h hn (by omega) (by omega)
  obtain ⟨j, rfl⟩ : ∃ j : Nat, r = j := ⟨r.toNat, by omega⟩
  have jl : j < xs.length := by omega
  refine ⟨xs[j], S', run_rt ?_, List.getElem_mem jl, g⟩
  show b_law_pick [.pl (.ref 1), .bor xs] _ = _
  simp [b_law_pick, e, ixS, atI_nat (show xs[j]? = some xs[j] by simp [jl])]
theorem shuf_loop {n : Nat} : ∀ (xs ys : List D) (S : Ms) (a b : Sl) (c : Sl), Gen n S → n + xs.length ≤ 100000000 → ys.length + xs.length < 1000000 →
    ∃ zs S' c', loop (.nm 3) (sIns 2 (eFn f_law_draw [] [eV 0, eB addS (eCall lenS [eV 2]) (eC (.int 1))]) (eV 3)) xs [.pl (.ref 1), b, .own ys, c] S = .ok (.nx [.pl (.ref 1), b, .own zs, c']) S' ∧ zs.Perm (ys ++ xs) ∧ Gen (n + xs.length) S' := by
  intro xs
  induction xs generalizing n with
  | nil => exact fun ys S a b c h _ _ => ⟨ys, S, c, rfl, by simp, by simpa using h⟩
  | cons x xs ih =>
    intro ys S a b c h hn hl
    simp only [List.length_cons] at hn hl
    obtain ⟨r, S1, e, r0, r1, g⟩ := draw_ok (k := (ys.length : Int) + 1) h (by omega) (by omega) (by omega)
    obtain ⟨zs, S2, c2, e2, p, g2⟩ := ih (n := n + 1) (ys.take r.toNat ++ [x] ++ ys.drop r.toNat) S1 a b (.pl x) g (by omega) (by simp; omega)
    refine ⟨zs, S2, c2, ?_, p.trans ?_, by rw [List.length_cons, Nat.add_comm xs.length 1, ← Nat.add_assoc]; exact g2⟩
    · rw [loop]
      have hi : sIns 2 (eFn f_law_draw [] [eV 0, eB addS (eCall lenS [eV 2]) (eC (.int 1))]) (eV 3) [.pl (.ref 1), b, .own ys, .pl x] S = .ok (.nx [.pl (.ref 1), b, .own (ys.take r.toNat ++ [x] ++ ys.drop r.toNat), .pl x]) S1 := by
        have c1 : ys.length < cap := by show ys.length < 1000000; omega
        have c2 : r ≤ 1000000000 := by omega
        simp [e, c1, r0, c2]
      simp only [x_setN, List.length_cons, List.length_nil]
      show (sIns 2 _ (eV 3) [.pl (.ref 1), b, .own ys, .pl x] S).bind _ = _
      rw [hi]
      exact e2
    · have := List.take_append_drop r.toNat ys
      calc ys.take r.toNat ++ [x] ++ ys.drop r.toNat ++ xs = ys.take r.toNat ++ x :: (ys.drop r.toNat ++ xs) := by simp
        _ |>.Perm (x :: (ys.take r.toNat ++ (ys.drop r.toNat ++ xs))) := List.perm_middle
        _ = x :: (ys ++ xs) := by rw [← List.append_assoc, this]
        _ |>.Perm (ys ++ x :: xs) := List.perm_middle.symm
theorem shuffle_ok {n : Nat} {S : Ms} {xs : List D} (h : Gen n S) (hn : n + xs.length ≤ 100000000) (hl : xs.length < 1000000) : ∃ zs S', f_law_shuffle [.pl (.ref 1), .pl (.lst xs)] S = .ok (.own zs) S' ∧ zs.Perm xs ∧ Gen (n + xs.length) S' := by
  obtain ⟨zs, S', c', e, p, g⟩ := shuf_loop xs [] S .no (.pl (.lst xs)) .no h hn (by simpa using hl)
  refine ⟨zs, S', run_rt ?_, by simpa using p, g⟩
  show b_law_shuffle [.pl (.ref 1), .pl (.lst xs), .no, .no] _ = _
  simp [b_law_shuffle, e]
end Gt
set_option Elab.async false
set_option linter.all false
set_option maxRecDepth 100000
set_option maxHeartbeats 1000000
namespace Gt
open PySem PySem.Spec PyProof.Rows L2
theorem comp_typed {α : Type} {tg : Tg} {t : Ft} {f : Fe} {δ : Evm} {S : Ms} (enc : α → D) (p : α → Bool) (q : α → D) : ∀ (ys : List α),
    (∀ y ∈ ys, ∃ δ1, setT tg (enc y) δ = some δ1 ∧ t δ1 S = .ok (p y) S ∧ (p y = true → ∃ a, f δ1 S = .ok a S ∧ toP a = some (q y))) →
    compL tg t f δ (ys.map enc) S = .ok ((ys.filter p).map q) S
  | [], _ => rfl
  | y :: ys, h => by
    obtain ⟨δ1, h1, h2, h3⟩ := h y (by simp)
    have ih := comp_typed (tg := tg) (t := t) (f := f) (δ := δ) (S := S) enc p q ys fun z hz => h z (by simp [hz])
    rw [List.map_cons, compL, h1]
    dsimp only
    rw [h2, cut_ok, bind_ok]
    cases e : p y with
    | false => rw [if_neg (by simp), ih, List.filter_cons, e]; simp
    | true =>
      obtain ⟨a, h4, h5⟩ := h3 e
      rw [if_pos rfl, h4, cut_ok, bind_ok, h5]
      dsimp only
      rw [ih, bind_ok, List.filter_cons, e]; simp
theorem bls_true {α : Type} (ys : List α) : blsD (ys.map fun _ => D.bl true) = some (ys.map fun _ => true) := by
  induction ys with
  | nil => rfl
  | cons y ys h => simp [blsD, h]
theorem bls_map {α : Type} (p : α → Bool) (ys : List α) : blsD (ys.map fun y => D.bl (p y)) = some (ys.map p) := by
  induction ys with
  | nil => rfl
  | cons y ys h => simp [blsD, h]
theorem letters_mem {c : Nat} (h : 97 ≤ c ∧ c ≤ 122) : c ∈ (Str.ofString "abcdefghijklmnopqrstuvwxyz").cps.toList := by
  have e : (Str.ofString "abcdefghijklmnopqrstuvwxyz").cps.toList = (List.range 26).map (· + 97) := by decide +kernel
  rw [e, List.mem_map]
  exact ⟨c - 97, List.mem_range.mpr (by omega), by omega⟩
theorem str_len (x : Str) : x.cps.toList.length = x.length := by rw [Array.length_toList]; rfl
theorem is_name_ok {x : Str} (h : okN x) (S : Ms) : f_is_name [.pl (.str x)] S = .ok (.pl (.bl true)) S := by
  obtain ⟨h1, h2, h3⟩ := h
  refine run_rt ?_
  show b_is_name [.pl (.str x), .no] _ = _
  have hl : lenS [.str x] = some (.pl (.int x.length)) := by simp [lenS]; show x.length ≤ 1000000; omega
  have a1 : (1 : Int) ≤ x.length := by omega
  have a2 : (x.length : Int) ≤ 8 := by omega
  have hc := comp_typed (tg := .nm 1) (t := tYes') (f := eB inS (eV 1) (eC (.str (Str.ofString "abcdefghijklmnopqrstuvwxyz")))) (δ := [.pl (.str x), .no]) (S := S) (fun c : Nat => D.str ⟨#[c]⟩) (fun _ => true) (fun _ => .bl true) x.cps.toList fun c hc => by
    refine ⟨[.pl (.str x), .pl (.str ⟨#[c]⟩)], by simp, rfl, fun _ => ⟨.pl (.bl true), ?_, rfl⟩⟩
    have hm : inS (.str ⟨#[c]⟩) (.str (Str.ofString "abcdefghijklmnopqrstuvwxyz")) = some (.pl (.bl true)) := inS_of (by
      unfold inD
      simp only [List.mem_cons]
      exact congrArg some (decide_eq_true (letters_mem (h3 c hc))))
    simp [hm]
  have hcap : x.cps.size ≤ cap := by show x.length ≤ 1000000; omega
  have hb := bls_true x.cps.toList
  have ha : ∀ l : List Nat, (l.map fun _ => true).all id = true := fun l => by simp
  rw [List.filter_eq_self.mpr (fun _ _ => rfl)] at hc
  simp [b_is_name, hl, a1, a2, hcap, hc, allS, hb]
theorem is_int_ok (i : Int) (S : Ms) : f_is_integer [.pl (.int i)] S = .ok (.pl (.bl true)) S := by
  refine run_rt ?_
  show b_is_integer [.pl (.int i)] _ = _
  simp [b_is_integer]
theorem is_time_ok {i : Int} (h1 : -1000000000000000000000000000000 ≤ i) (h2 : i ≤ 1000000000000000000000000000000) (S : Ms) : f_is_time [.pl (.int i)] S = .ok (.pl (.bl true)) S := by
  refine run_rt ?_
  show b_is_time [.pl (.int i)] _ = _
  simp [b_is_time, is_int_ok, h1, h2]
theorem is_level_ok {i : Int} (h1 : 1 ≤ i) (h2 : i ≤ 9) (S : Ms) : f_is_level [.pl (.int i)] S = .ok (.pl (.bl true)) S := by
  refine run_rt ?_
  show b_is_level [.pl (.int i)] _ = _
  simp [b_is_level, is_int_ok, h1, h2]
theorem is_passes_ok {i : Int} (h1 : 0 ≤ i) (h2 : i ≤ 20) (S : Ms) : f_is_passes [.pl (.int i)] S = .ok (.pl (.bl true)) S := by
  refine run_rt ?_
  show b_is_passes [.pl (.int i)] _ = _
  simp [b_is_passes, is_int_ok, h1, h2]
theorem grant_error_ok {x : Gr} (h : okG x) (S : Ms) : f_grant_error [.pl (G x)] S = .ok (.pl .non) S := by
  refine run_rt ?_
  show b_grant_error [.pl (G x), .no, .no, .no, .no, .no] _ = _
  have e := eqS_str h.g.s h.k.s
  simp [b_grant_error, G, is_time_ok h.t1 h.t2, is_name_ok h.g, is_name_ok h.k, e, h.ne, is_level_ok h.l1 h.l2, is_passes_ok h.p1 h.p2]
theorem is_support_ok {x y : Gr} (h : okG x) (h' : okG y) (S : Ms) : f_is_support [.pl (G x), .pl (G y)] S = .ok (.pl (.bl (supp x y))) S := by
  refine run_rt ?_
  have e := neS_str h.k.s h'.g.s
  have e' : neS (.str y.g) (.str y.g) = some (.pl (.bl false)) := by rw [neS_str h'.g.s h'.g.s]; simp
  have g0 : geS (.int x.t) (.int y.t) = some (.pl (.bl (!decide (x.t < y.t)))) := by rw [geS_int, ← decide_not]; simp
  have g3 := geS_int x.l y.l
  have i0 : ixS (G y) (.int 0) = some (.pl (.int y.t)) := rfl
  have i1 : ixS (G y) (.int 1) = some (.pl (.str y.g)) := rfl
  have i3 : ixS (G y) (.int 3) = some (.pl (.int y.l)) := rfl
  have i4 : ixS (G y) (.int 4) = some (.pl (.int y.p)) := rfl
  show b_is_support [.pl (.tup [.int x.t, .str x.g, .str x.k, .int x.l, .int x.p]), .pl (G y), .no, .no, .no, .no, .no] _ = _
  by_cases c1 : x.k = y.g <;> by_cases c2 : x.t < y.t <;> by_cases c3 : y.l ≤ x.l <;> by_cases c4 : y.p < x.p <;> simp [b_is_support, i0, i1, i3, i4, e, e', g0, c1, c2, c3, c4, supp, -geS_int, g3]
end Gt
set_option Elab.async false
set_option linter.all false
set_option maxRecDepth 100000
set_option maxHeartbeats 1000000
namespace Gt
open PySem PySem.Spec PyProof.Rows L2
theorem cut_take (xs : List D) (k : Nat) : cutD xs none (some (k : Int)) = xs.take k := by
  have e0 : HT.sIx xs.length 0 none = 0 := rfl
  have e : HT.sIx xs.length xs.length (some (k : Int)) = min k xs.length := HT.sIx_nat _ _ _
  unfold cutD
  rw [e0, e]
  simp
theorem mem_enum {α : Type} {enc : α → D} : ∀ {ys : List α} {k : Nat} {d : D}, d ∈ enumD k (ys.map enc) → ∃ (i : Nat) (y : α), ys[i]? = some y ∧ d = .tup [.int ((k + i : Nat) : Int), enc y]
  | [], k, d, h => by simp [enumD] at h
  | y :: ys, k, d, h => by
    rw [List.map_cons, enumD, List.mem_cons] at h
    rcases h with rfl | h
    · exact ⟨0, y, rfl, by simp⟩
    · obtain ⟨i, z, h1, h2⟩ := mem_enum h
      exact ⟨i + 1, z, by simpa using h1, by rw [h2, show k + 1 + i = k + (i + 1) from by omega]⟩
theorem loop_pass {tg : Tg} {body : Fs} {S : Ms} (P : Evm → Prop) : ∀ (ds : List D) (δ : Evm), P δ → (∀ d ∈ ds, ∀ δ, P δ → ∃ δ1 δ2, setT tg d δ = some δ1 ∧ body δ1 S = .ok (.nx δ2) S ∧ P δ2) → ∃ δ', loop tg body ds δ S = .ok (.nx δ') S ∧ P δ'
  | [], δ, h, _ => ⟨δ, rfl, h⟩
  | d :: ds, δ, h, b => by
    obtain ⟨δ1, δ2, e1, e2, h2⟩ := b d (by simp) δ h
    obtain ⟨δ', e3, h3⟩ := loop_pass P ds δ2 h2 fun d hd => b d (by simp [hd])
    refine ⟨δ', ?_, h3⟩
    rw [loop, e1]
    dsimp only
    rw [e2]
    exact e3
structure VRo (ow : List Str) (gs : List Gr) : Prop where
  o1 : 1 ≤ ow.length
  o2 : ow.length ≤ 4
  on : ∀ o ∈ ow, okN o
  od : ow.Nodup
  g1 : gs.length ≤ 60
  gg : ∀ g ∈ gs, okG g
  gk : ∀ g ∈ gs, g.k ∉ ow
  gd : gs.Nodup
theorem not_take {α : Type} {xs : List α} (h : xs.Nodup) {i : Nat} {x : α} (e : xs[i]? = some x) : x ∉ xs.take i := by
  intro m
  obtain ⟨hi, rfl⟩ := List.getElem?_eq_some_iff.mp e
  obtain ⟨j, hj, ej⟩ := List.mem_take_iff_getElem.mp m
  have hj1 : j < i := by omega
  exact absurd ej (List.pairwise_iff_getElem.mp h j i (by omega) hi hj1)
theorem roll_error_ok {ow : List Str} {gs : List Gr} (v : VRo ow gs) (S : Ms) : f_roll_error [.pl (NT ow), .pl (GL gs), .pl (.int 60)] S = .ok (.pl .non) S := by
  refine run_rt ?_
  show b_roll_error [.pl (NT ow), .pl (GL gs), .pl (.int 60), .no, .no, .no, .no] _ = _
  have a1 : (1 : Int) ≤ ow.length := by have := v.o1; omega
  have a2 : (ow.length : Int) ≤ 4 := by have := v.o2; omega
  have a3 : ¬ (60 : Int) < gs.length := by have := v.g1; omega
  have son : ∀ o ∈ ow, okS o = true := fun o ho => (v.on o ho).s
  have sgs : ∀ g ∈ gs, okGS g := fun g hg => (v.gg g hg).s
  obtain ⟨δ1, e1, b, c, rfl⟩ := loop_pass (tg := .tp [3, 4]) (body := sIf (tOr' (tNot' (tV (eFn f_is_name [] [eV 4]))) (tB' (eB inS (eV 4) (eSl (eV 0) (oNone) (oSome (eV 3)))))) (sRet (eTup [eC (.str (Str.ofString "owner")), eV 3])) (sNx)) (S := S)
    (fun δ => ∃ b c, δ = [.pl (NT ow), .pl (GL gs), .pl (.int 60), b, c, .no, .no]) (enumD 0 (ow.map D.str)) [.pl (NT ow), .pl (GL gs), .pl (.int 60), .no, .no, .no, .no] ⟨_, _, rfl⟩ fun d hd δ ⟨b, c, e⟩ => by
      subst e
      obtain ⟨i, y, hi, rfl⟩ := mem_enum hd
      have hy : y ∈ ow := List.mem_of_getElem? hi
      have ni : y ∉ ow.take i := not_take v.od hi
      have hin : inS (.str y) (.tup ((ow.map D.str).take i)) = some (.pl (.bl false)) := by
        rw [← List.map_take]
        exact inS_of (by rw [inD_NT (son y hy) fun z hz => son z (List.mem_of_mem_take hz)]; simp [ni])
      refine ⟨[.pl (NT ow), .pl (GL gs), .pl (.int 60), .pl (.int i), .pl (.str y), .no, .no], [.pl (NT ow), .pl (GL gs), .pl (.int 60), .pl (.int i), .pl (.str y), .no, .no], by simp, ?_, _, _, rfl⟩
      simp [is_name_ok (v.on y hy), cut_take, hin]
  obtain ⟨δ2, e2, b', c', d', f', rfl⟩ := loop_pass (tg := .tp [3, 5]) (body := sSeq (sAsg 6 (eFn f_grant_error [] [eV 5]))
  (sSeq (sIf (tB' (eIsN true (eV 6))) (sRet (eTup [eC (.str (Str.ofString "grant")), eV 3, eV 6])) (sNx))
  (sSeq (sIf (tB' (eB inS (eB ixS (eV 5) (eC (.int 2))) (eV 0))) (sRet (eTup [eC (.str (Str.ofString "owned")), eV 3])) (sNx))
  (sIf (tB' (eB inS (eV 5) (eSl (eV 1) (oNone) (oSome (eV 3))))) (sRet (eTup [eC (.str (Str.ofString "repeated")), eV 3])) (sNx))))) (S := S)
    (fun δ => ∃ b c d e, δ = [.pl (NT ow), .pl (GL gs), .pl (.int 60), b, c, d, e]) (enumD 0 (gs.map G)) [.pl (NT ow), .pl (GL gs), .pl (.int 60), b, c, .no, .no] ⟨_, _, _, _, rfl⟩ fun d hd δ ⟨b, c, d', e', e⟩ => by
      subst e
      obtain ⟨i, y, hi, rfl⟩ := mem_enum hd
      have hy : y ∈ gs := List.mem_of_getElem? hi
      have ni : y ∉ gs.take i := not_take v.gd hi
      have hin : inS (G y) (.lst ((gs.map G).take i)) = some (.pl (.bl false)) := by
        rw [← List.map_take]
        exact inS_of (by rw [inD_GL (sgs y hy) fun z hz => sgs z (List.mem_of_mem_take hz)]; simp [ni])
      have hk : inS (.str y.k) (NT ow) = some (.pl (.bl false)) := inS_of (by rw [inD_NT (v.gg y hy).k.s son]; simp [v.gk y hy])
      have hx : ixS (G y) (.int 2) = some (.pl (.str y.k)) := rfl
      refine ⟨[.pl (NT ow), .pl (GL gs), .pl (.int 60), .pl (.int i), c, .pl (G y), e'], [.pl (NT ow), .pl (GL gs), .pl (.int 60), .pl (.int i), c, .pl (G y), .pl .non], by simp, ?_, _, _, _, _, rfl⟩
      simp [grant_error_ok (v.gg y hy), cut_take, hin, hx, hk]
  simp [b_roll_error, a1, a2, a3, e1, e2]
def Rl (ow : List Str) (gs : List Gr) : D := .ins 0 [NT (sortN ow), GT (sortG gs)]
theorem get_last {S : Ms} {x : MO} : (S ++ [x])[S.length]? = some x := by simp
theorem set_last {S : Ms} {x y : MO} : (S ++ [x]).set S.length y = S ++ [y] := by simp
theorem roll_init_ok {ow : List Str} {gs : List Gr} (v : VRo ow gs) (S : Ms) : f_Roll_init [.pl (.ref S.length), .pl (GL gs), .pl (NT ow)] (S ++ [.ins 0 []]) = .ok (.pl .non) (S ++ [.ins 0 [NT (sortN ow), GT (sortG gs)]]) := by
  refine run_nx (δ' := [.pl (.ref S.length), .pl (GL gs), .pl (NT ow), .pl .non]) ?_
  show b_Roll_init [.pl (.ref S.length), .pl (GL gs), .pl (NT ow), .no] _ = _
  have s1 : sortS [NT ow] = some (.own ((sortN ow).map D.str)) := sortS_NT (fun o ho => (v.on o ho).s) (by have := v.o2; show ow.length ≤ 1000000; omega)
  have s2 : sortS [GL gs] = some (.own ((sortG gs).map G)) := sortS_GL (fun g hg => (v.gg g hg).s) (by have := v.g1; show gs.length ≤ 1000000; omega)
  simp [b_Roll_init, roll_error_ok v, s1, s2, get_last, set_last, putD]
theorem plain_NT (xs : List Str) : plainD (NT xs) = true := by rw [plainD, plainA_all, List.all_eq_true]; intro x hx; obtain ⟨y, _, rfl⟩ := List.mem_map.mp hx; rfl
theorem plain_G (x : Gr) : plainD (G x) = true := by simp [G, plainD, plainA]
theorem plain_GT (xs : List Gr) : plainD (GT xs) = true := by rw [plainD, plainA_all, List.all_eq_true]; intro x hx; obtain ⟨y, _, rfl⟩ := List.mem_map.mp hx; exact plain_G y
theorem mk_ok {ow : List Str} {gs : List Gr} (v : VRo ow gs) (S : Ms) : mkR 0 f_Roll_init (ow.map D.str) (.pl (GL gs)) S = .ok (.pl (Rl ow gs)) S :=
  mkR_ok (roll_init_ok v S) (by rw [plainA_all]; simp [plain_NT, plain_GT]) rfl
theorem law_make_ok {ow : List Str} {gs : List Gr} (v : VRo ow gs) (S : Ms) : f_law_make [.pl (NL ow), .pl (GL gs)] S = .ok (.pl (Rl ow gs)) S := by
  refine run_rt ?_
  show b_law_make [.pl (NL ow), .pl (GL gs)] _ = _
  have m := mk_ok v S
  have i0 : ∀ (a : Str) (r : List Str), ixS (NL (a :: r)) (.int 0) = some (.pl (.str a)) := fun a r => by
    show (atI (NL (a :: r) |> fun _ => (a :: r).map D.str) ((0 : Nat) : Int)).map Sl.pl = _; rw [atI_nat (x := D.str a) (by simp)]; rfl
  have i1 : ∀ (a b : Str) (r : List Str), ixS (NL (a :: b :: r)) (.int 1) = some (.pl (.str b)) := fun a b r => by
    show (atI ((a :: b :: r).map D.str) ((1 : Nat) : Int)).map Sl.pl = _; rw [atI_nat (x := D.str b) (by simp)]; rfl
  have i2 : ∀ (a b c : Str) (r : List Str), ixS (NL (a :: b :: c :: r)) (.int 2) = some (.pl (.str c)) := fun a b c r => by
    show (atI ((a :: b :: c :: r).map D.str) ((2 : Nat) : Int)).map Sl.pl = _; rw [atI_nat (x := D.str c) (by simp)]; rfl
  have i3 : ∀ (a b c d : Str) (r : List Str), ixS (NL (a :: b :: c :: d :: r)) (.int 3) = some (.pl (.str d)) := fun a b c d r => by
    show (atI ((a :: b :: c :: d :: r).map D.str) ((3 : Nat) : Int)).map Sl.pl = _; rw [atI_nat (x := D.str d) (by simp)]; rfl
  have l3 : 3 ≤ cap := by decide
  have l4 : 4 ≤ cap := by decide
  have l2 : 2 ≤ cap := by decide
  have l1 : 1 ≤ cap := by decide
  have o1 := v.o1
  have o2 := v.o2
  match ow, o1, o2, m, v with
  | [a], _, _, m, v => simp only [List.map_cons, List.map_nil] at m; simp [b_law_make, eMake, m, i0, l1]
  | [a, b], _, _, m, v => simp only [List.map_cons, List.map_nil] at m; simp [b_law_make, eMake, m, i0, i1, l2]
  | [a, b, c], _, _, m, v => simp only [List.map_cons, List.map_nil] at m; simp [b_law_make, eMake, m, i0, i1, i2, l3]
  | [a, b, c, d], _, _, m, v => simp only [List.map_cons, List.map_nil] at m; simp [b_law_make, eMake, m, i0, i1, i2, i3, l4]
end Gt
set_option Elab.async false
set_option linter.all false
set_option maxRecDepth 100000
set_option maxHeartbeats 1000000
namespace Gt
open PySem PySem.Spec PyProof.Rows L2
def OwD (ow : List Str) (d : D) : Prop := ∀ x : Str, okS x = true → inD (.str x) d = some (decide (x ∈ ow))
theorem OwD.L {ow : List Str} (h : ∀ o ∈ ow, okN o) : OwD ow (NL ow) := fun x hx => inD_NL hx fun o ho => (h o ho).s
theorem OwD.T {ow : List Str} (h : ∀ o ∈ ow, okN o) : OwD ow (NT (sortN ow)) := fun x hx => by
  rw [inD_NT hx fun o ho => (h o (mem_sortN.mp ho)).s]; simp [mem_sortN]
theorem counts_loop {ow : List Str} {o b : D} (ho : OwD ow o) {S : Ms} : ∀ (r f : List Gr) (c : Sl), (∀ x ∈ r, okG x) → (∀ x ∈ f, okG x) → f.length + r.length ≤ 100000 →
    ∃ c', loop (.nm 3) (sIf (tOr' (tB' (eB inS (eB ixS (eV 3) (eC (.int 1))) (eV 0))) (tV (eCall anyS [eComp (.nm 4) (iVc 2) (tYes') (eFn f_is_support [] [eV 4, eV 3])]))) (sApp 2 (eV 3)) (sNx)) (r.map G) [.pl o, .pl b, .own (f.map G), c, .no] S = .ok (.nx [.pl o, .pl b, .own ((cntF ow f r).map G), c', .no]) S := by
  intro r
  induction r with
  | nil => exact fun f c _ _ _ => ⟨c, rfl⟩
  | cons x r ih =>
    intro f c hr hf hl
    simp only [List.length_cons] at hl
    have okx := hr x (by simp)
    have hi : inS (.str x.g) o = some (.pl (.bl (decide (x.g ∈ ow)))) := inS_of (ho x.g okx.g.s)
    have hx1 : ixS (G x) (.int 1) = some (.pl (.str x.g)) := rfl
    have hc := comp_typed (tg := .nm 4) (t := tYes') (f := eFn f_is_support [] [eV 4, eV 3]) (δ := [.pl o, .pl b, .own (f.map G), .pl (G x), .no]) (S := S) G (fun _ => true) (fun y => .bl (supp y x)) f fun y hy => by
      refine ⟨[.pl o, .pl b, .own (f.map G), .pl (G x), .pl (G y)], by simp, rfl, fun _ => ⟨.pl (.bl (supp y x)), ?_, rfl⟩⟩
      simp [is_support_ok (hf y hy) okx]
    rw [List.filter_eq_self.mpr (fun _ _ => rfl)] at hc
    have l1 : f.length ≤ cap := by show f.length ≤ 1000000; omega
    have l2 : f.length < cap := by show f.length < 1000000; omega
    have hb : anyS [.lst (f.map fun y => .bl (supp y x))] = some (.pl (.bl (f.any fun y => supp y x))) := by
      simp only [anyS, bls_map]; simp [List.any_map]
    have body : (sIf (tOr' (tB' (eB inS (eB ixS (eV 3) (eC (.int 1))) (eV 0))) (tV (eCall anyS [eComp (.nm 4) (iVc 2) (tYes') (eFn f_is_support [] [eV 4, eV 3])]))) (sApp 2 (eV 3)) (sNx)) [.pl o, .pl b, .own (f.map G), .pl (G x), .no] S = .ok (.nx [.pl o, .pl b, .own ((if takes ow f x = true then f ++ [x] else f).map G), .pl (G x), .no]) S := by
      by_cases c1 : x.g ∈ ow
      · simp [hx1, hi, c1, l2, takes]
      · cases c2 : f.any fun y => supp y x with
        | true => rw [c2] at hb; simp [hx1, hi, c1, l1, l2, hc, hb, takes, c2]
        | false => rw [c2] at hb; simp [hx1, hi, c1, l1, l2, hc, hb, takes, c2]
    obtain ⟨c', e⟩ := ih (if takes ow f x = true then f ++ [x] else f) (.pl (G x)) (fun y hy => hr y (by simp [hy])) (fun y hy => by
      split at hy
      · rcases List.mem_append.mp hy with q | q
        · exact hf y q
        · simp only [List.mem_singleton] at q; subst q; exact okx
      · exact hf y hy) (by
      split
      · simp; omega
      · omega)
    refine ⟨c', ?_⟩
    rw [List.map_cons, loop]
    simp only [x_setN, List.length_cons, List.length_nil]
    show (sIf _ _ _ [.pl o, .pl b, .own (f.map G), .pl (G x), .no] S).bind _ = _
    rw [body]
    exact e
theorem counts_in_ok {ow : List Str} {o : D} (ho : OwD ow o) {xs : List Gr} (h : ∀ x ∈ xs, okG x) (hl : xs.length ≤ 100000) (S : Ms) : f_counts_in [.pl o, .pl (GL xs)] S = .ok (.own ((cnt ow xs).map G)) S := by
  obtain ⟨c', e⟩ := counts_loop (b := GL xs) ho (S := S) (sortG xs) [] .no (fun x hx => h x (mem_sortG.mp hx)) (fun x hx => by cases hx) (by rw [(sortG_perm xs).length_eq]; simpa using hl)
  have s2 : sortS [GL xs] = some (.own ((sortG xs).map G)) := sortS_GL (fun g hg => (h g hg).s) (by show xs.length ≤ 1000000; omega)
  refine run_rt ?_
  show b_counts_in [.pl o, .pl (GL xs), .no, .no, .no] _ = _
  simp only [List.map_nil] at e
  simp only [b_counts_in, x_sSeq, x_sOwn, x_eLst, x_fA0, bind_ok, x_plA0]
  simp [s2, e, cnt]
end Gt
set_option Elab.async false
set_option linter.all false
set_option maxRecDepth 100000
set_option maxHeartbeats 1000000
namespace Gt
open PySem PySem.Spec PyProof.Rows L2
theorem grants_ok (ow : List Str) (gs : List Gr) (S : Ms) : f_Roll_grants [.pl (Rl ow gs)] S = .ok (.pl (GT (sortG gs))) S := by
  refine run_rt ?_
  show b_Roll_grants [.pl (Rl ow gs)] _ = _
  simp [b_Roll_grants, Rl]
theorem owners_ok (ow : List Str) (gs : List Gr) (S : Ms) : f_Roll_owners [.pl (Rl ow gs)] S = .ok (.pl (NT (sortN ow))) S := by
  refine run_rt ?_
  show b_Roll_owners [.pl (Rl ow gs)] _ = _
  simp [b_Roll_owners, Rl]
theorem cnt_sortG (ow : List Str) (xs : List Gr) : cnt ow (sortG xs) = cnt ow xs := cnt_congr (sortG_perm xs)
theorem seq_ok {s s' : Fs} {δ δ1 : Evm} {S S1 : Ms} {r : Rs Fl} (h : s δ S = .ok (.nx δ1) S1) (h2 : s' δ1 S1 = r) : sSeq s s' δ S = r := by
  rw [x_sSeq, h]; exact h2
end Gt
set_option Elab.async false
set_option linter.all false
set_option maxRecDepth 100000
set_option maxHeartbeats 1000000
namespace Gt
open PySem PySem.Spec PyProof.Rows L2
theorem pow1060 : powS (.int 10) (.int 60) = some (.pl (.int (10 ^ 60))) := rfl
theorem powbig : powS (.int 1000000000000000000000000000000000000000000000000000000000000) (.int 20) = some (.pl (.int big)) := by
  have h : (0 : Int) ≤ 20 ∧ (20 : Int) ≤ 1000 ∧ (1000000000000000000000000000000000000000000000000000000000000 : Int).natAbs < 2 ^ 1000 := by decide +kernel
  have e : (1000000000000000000000000000000000000000000000000000000000000 : Int) ^ (20 : Int).toNat = big := by decide +kernel
  show (if (0 : Int) ≤ 20 ∧ (20 : Int) ≤ 1000 ∧ (1000000000000000000000000000000000000000000000000000000000000 : Int).natAbs < 2 ^ 1000 then some (Sl.pl (D.int ((1000000000000000000000000000000000000000000000000000000000000 : Int) ^ (20 : Int).toNat))) else none) = _
  rw [if_pos h, e]
def goodC (c : Int) : Prop := -1000000000000000000 < c ∧ c < big
abbrev openB : Fs := sIf (tB' (eB geS (eCall absS [eB ixS (eV 1) (eV 2)]) (eB powS (eC (.int 10)) (eC (.int 18))))) (sPut 1 (eV 2) (eB modS (eCall intS' [eB ixS (eV 1) (eV 2)]) (eB powS (eB powS (eC (.int 10)) (eC (.int 60))) (eC (.int 20))))) (sNx)
theorem open_step {a : Sl} {cs : List Int} {j : Nat} (hj : j < cs.length) (S : Ms) : ∃ c, goodC c ∧ (openB [a, .own (cs.map .int), .pl (.int (j : Int))] S = .ok (.nx [a, .own ((cs.set j c).map .int), .pl (.int (j : Int))]) S) := by
  have hc : atI (cs.map D.int) (j : Int) = some (.int cs[j]) := atI_nat (by simp [hj])
  have hx : ixS (.lst (cs.map D.int)) (.int (j : Int)) = some (.pl (.int cs[j])) := by
    show (atI (cs.map D.int) (j : Int)).map Sl.pl = _
    rw [hc]; rfl
  have hn : ixN cs.length (j : Int) = some j := by unfold ixN; simp [hj]
  have b0 : 0 < big := by decide +kernel
  have ha : absS [.int cs[j]] = some (.pl (.int (if cs[j] < 0 then -cs[j] else cs[j]))) := rfl
  generalize hw : (if cs[j] < 0 then -cs[j] else cs[j]) = w at ha
  by_cases h : 1000000000000000000 ≤ w
  · refine ⟨cs[j] % big, ⟨by have := Int.emod_nonneg cs[j] (show big ≠ 0 by omega); omega, Int.emod_lt_of_pos _ b0⟩, ?_⟩
    simp [openB, hx, ha, pow18, h, pow1060, powbig, x_mod b0, hn, List.map_set]
  · refine ⟨cs[j], ⟨by split at hw <;> omega, by have := big_le; split at hw <;> omega⟩, ?_⟩
    simp [openB, hx, ha, pow18, h]
theorem open_loop {a : Sl} (S : Ms) : ∀ (js : List Nat) (cs : List Int) (c : Sl), (∀ j ∈ js, j < cs.length) → ∃ (cs' : List Int) (c' : Sl), loop (.nm 2) openB (js.map fun (j : Nat) => D.int (j : Int)) [a, .own (cs.map .int), c] S = .ok (.nx [a, .own (cs'.map .int), c']) S ∧ cs'.length = cs.length ∧ ∀ i (h : i < cs'.length) (h2 : i < cs.length), (i ∈ js ∨ goodC cs[i]) → goodC cs'[i] := by
  intro js
  induction js with
  | nil => exact fun cs c _ => ⟨cs, c, rfl, rfl, fun i h h2 q => by simpa using q⟩
  | cons j js ih =>
    intro cs c hj
    obtain ⟨z, gz, e⟩ := open_step (a := a) (hj j (by simp)) S
    obtain ⟨cs', c', e2, l, k⟩ := ih (cs.set j z) (.pl (.int (j : Int))) (fun i hi => by rw [List.length_set]; exact hj i (by simp [hi]))
    refine ⟨cs', c', ?_, by rw [l, List.length_set], fun i h h2 q => k i h (by rw [List.length_set]; exact h2) ?_⟩
    · rw [List.map_cons, loop]
      simp only [x_setN, List.length_cons, List.length_nil]
      show (openB [a, .own (cs.map .int), .pl (.int (j : Int))] S).bind _ = _
      rw [e]
      exact e2
    · by_cases hi : j = i
      · subst hi; right; rw [List.getElem_set_self]; exact gz
      · rcases q with q | q
        · left
          rcases List.mem_cons.mp q with q | q
          · exact absurd q.symm hi
          · exact q
        · right; rw [List.getElem_set_ne hi]; exact q
theorem law_source_ok (ns : List Int) (h : ns.length ≤ 63) : ∃ S', f_law_source [.pl (.scr ns)] [] = .ok (.pl (.ref 1)) S' ∧ Gen 0 S' := by
  have t63 : cutD (ns.map D.int) none (some 63) = ns.map D.int := by
    rw [show (63 : Int) = ((63 : Nat) : Int) from rfl, cut_take, List.take_of_length_le (by simpa using h)]
  obtain ⟨cs, c', e, l, k⟩ := open_loop (a := .pl (.scr ns)) [] (List.range ns.length) ns .no (fun j hj => List.mem_range.mp hj)
  have good : ∀ c ∈ cs, goodC c := fun c hc => by
    obtain ⟨i, hi, rfl⟩ := List.getElem_of_mem hc
    exact k i hi (by omega) (.inl (List.mem_range.mpr (by omega)))
  have rg : rngD 0 ((ns.map D.int).length : Int) = (List.range ns.length).map fun (j : Nat) => D.int (j : Int) := by
    unfold rngD
    simp
  have sm : sm62 (ns.length : Int) = true := by unfold sm62; exact decide_eq_true (by omega)
  have oki : ∀ xs : List Int, okd 1 (.lst (xs.map D.int)) := fun xs => okd.lst fun y hy => by obtain ⟨x, _, rfl⟩ := List.mem_map.mp hy; exact okd.int x
  have eqn : eqS (.lst (cs.map D.int)) (.lst []) = some (.pl (.bl (decide (cs = [])))) := by
    have o1 := (oki cs).p (by decide)
    have o2 := (oki []).p (by decide)
    rw [List.map_nil] at o2
    have ev : PyData.eqv (toPy (.lst (cs.map D.int))) (toPy (.lst [])) = decide (cs = []) := by
      rw [toPy_lst, toPy_lst, PyData.eqv, List.map_map]
      exact eqvAll_map (fun i : Int => PyData.int i) eqv_int cs []
    simp only [eqS, eqD, o1, o2, ev]
    simp
  have e1 : sFor (.nm 2) (iRng1 [eCall lenS [eV 1]]) openB [.pl (.scr ns), .own (ns.map .int), .no] [] = .ok (.nx [.pl (.scr ns), .own (cs.map .int), c']) [] := by
    rw [x_sFor, x_iRng1]
    rw [show fA [eCall lenS [eV 1]] [.pl (.scr ns), .own (ns.map .int), .no] [] = .ok [.pl (.int ns.length)] [] from by simp]
    simp only [bind_ok]
    rw [if_pos sm]
    rw [List.length_map] at rg
    rw [bind_ok, rg]
    exact e
  by_cases hc : cs = []
  · refine ⟨St [0] 0, run_rt ?_, [0], 0, rfl, by simp, by simp, by intro c m; simp only [List.mem_singleton] at m; subst m; decide +kernel, by omega, by omega⟩
    show b_law_source [.pl (.scr ns), .no, .no] _ = _
    refine seq_ok (δ1 := [.pl (.scr ns), .own (ns.map .int), .no]) (S1 := []) ?_ ?_
    · simp [slS, t63]
    refine seq_ok e1 ?_
    have l1 : 1 ≤ cap := by decide
    rw [hc] at eqn ⊢
    simp at eqn
    simp [eqn, l1, St]
  · refine ⟨St cs 0, run_rt ?_, cs, 0, rfl, hc, fun c m => (good c m).1, fun c m => (good c m).2, by omega, by omega⟩
    show b_law_source [.pl (.scr ns), .no, .no] _ = _
    refine seq_ok (δ1 := [.pl (.scr ns), .own (ns.map .int), .no]) (S1 := []) ?_ ?_
    · simp [slS, t63]
    refine seq_ok e1 ?_
    simp [eqn, hc, St]
end Gt
set_option Elab.async false
set_option linter.all false
set_option maxRecDepth 100000
set_option maxHeartbeats 1000000
namespace Gt
open PySem PySem.Spec PyProof.Rows L2
def abc : Str := Str.ofString "abcdefghijklmnopqrstuvwxyz"
theorem abc_list : abc.cps.toList = (List.range 26).map (· + 97) := by decide +kernel
theorem abc_at {r : Int} (h0 : 0 ≤ r) (h1 : r < 26) : ∃ c : Nat, 97 ≤ c ∧ c ≤ 122 ∧ ixS (.str abc) (.int r) = some (.pl (.str ⟨#[c]⟩)) := by
  obtain ⟨j, rfl⟩ : ∃ j : Nat, r = j := ⟨r.toNat, by omega⟩
  refine ⟨j + 97, by omega, by omega, ?_⟩
  have e : atI abc.cps.toList (j : Int) = some (j + 97) := atI_nat (by
    have : j < 26 := by omega
    rw [abc_list, List.getElem?_map, List.getElem?_range this]; rfl)
  have l : abc.length ≤ cap := by decide +kernel
  simp only [ixS, if_pos l, e, Option.map_some]
def let1 (c : Nat) : Str := ⟨#[c]⟩
theorem word_comp {a : Sl} : ∀ (ks : List D) (S : Ms) (m : Nat), Gen m S → m + ks.length ≤ 100000000 → ∃ (cs : List Nat) (S' : Ms), compL (.nm 2) tYes' (eB ixS (eC (.str abc)) (eFn f_law_draw [] [eV 0, eC (.int 26)])) [.pl (.ref 1), a, .no] ks S = .ok (cs.map fun c => D.str (let1 c)) S' ∧ cs.length = ks.length ∧ (∀ c ∈ cs, 97 ≤ c ∧ c ≤ 122) ∧ Gen (m + ks.length) S'
  | [], S, m, h, _ => ⟨[], S, rfl, rfl, by simp, h⟩
  | k :: ks, S, m, h, hn => by
    simp only [List.length_cons] at hn
    obtain ⟨r, S1, e, r0, r1, g1⟩ := draw_ok (k := 26) h (by omega) (by omega) (by omega)
    obtain ⟨c, c0, c1, ec⟩ := abc_at r0 r1
    obtain ⟨cs, S2, e2, l2, b2, g2⟩ := word_comp (a := a) ks S1 (m + 1) g1 (by omega)
    refine ⟨c :: cs, S2, ?_, by simp [l2], ?_, by rw [List.length_cons, Nat.add_comm ks.length 1, ← Nat.add_assoc]; exact g2⟩
    · rw [compL]
      simp only [x_setN, List.length_cons, List.length_nil]
      have ef : eB ixS (eC (.str abc)) (eFn f_law_draw [] [eV 0, eC (.int 26)]) [.pl (.ref 1), a, .pl k] S = .ok (.pl (.str ⟨#[c]⟩)) S1 := by simp [e, ec]
      show (cut (tYes' [.pl (.ref 1), a, .pl k] S)).bind _ = _
      rw [show tYes' [.pl (.ref 1), a, .pl k] S = .ok true S from rfl, cut_ok, bind_ok, if_pos rfl]
      show (cut (eB ixS _ _ [.pl (.ref 1), a, .pl k] S)).bind _ = _
      rw [ef]
      simp [e2, let1]
    · intro x hx
      rcases List.mem_cons.mp hx with rfl | hx
      · exact ⟨c0, c1⟩
      · exact b2 x hx
theorem strsD_map : ∀ xs : List Str, strsD (xs.map D.str) = some xs
  | [] => rfl
  | x :: xs => by simp [strsD, strsD_map xs]
theorem join_let (cs : List Nat) : (Txt.join (Str.ofString "") (cs.map let1)).length = cs.length ∧ ∀ c ∈ (Txt.join (Str.ofString "") (cs.map let1)).cps.toList, c ∈ cs := by
  refine ⟨by rw [PySem.W.KT.join_ones _ (fun a ha => by obtain ⟨c, _, rfl⟩ := List.mem_map.mp ha; rfl), List.length_map], fun c hc => ?_⟩
  have e : Txt.join (Str.ofString "") (cs.map let1) = Str.join (Str.ofString "") (cs.map let1) := StrLaws.glued_eq_join _ _
  rw [e, mem_join] at hc
  rcases hc with ⟨t, ht, hc⟩ | ⟨_, hc⟩
  · obtain ⟨d, hd, rfl⟩ := List.mem_map.mp ht
    simp only [let1, List.mem_singleton] at hc
    rw [hc]; exact hd
  · rw [show (Str.ofString "").cps.toList = [] from by decide +kernel] at hc
    cases hc
def isW (k : Nat) (x : Str) : Prop := x.length = k ∧ ∀ c ∈ x.cps.toList, 97 ≤ c ∧ c ≤ 122
theorem isW.n {k : Nat} {x : Str} (h : isW k x) (k1 : 1 ≤ k) (k2 : k ≤ 8) : okN x := ⟨by rw [h.1]; exact k1, by rw [h.1]; exact k2, h.2⟩
theorem rng_len (k : Nat) : (rngD 0 (k : Int)).length = k := by simp [rngD]
theorem word_ok {n k : Nat} {S : Ms} (h : Gen n S) (hn : n ≤ 99000000) (hk : k ≤ 100) : ∃ w S', f_law_word [.pl (.ref 1), .pl (.int (k : Int))] S = .ok (.pl (.str w)) S' ∧ isW k w ∧ Gen (n + k) S' := by
  obtain ⟨cs, S', e, l, b, g⟩ := word_comp (a := .pl (.int (k : Int))) (rngD 0 (k : Int)) S n h (by rw [rng_len]; omega)
  rw [rng_len] at l g
  obtain ⟨j1, j2⟩ := join_let cs
  refine ⟨_, S', run_rt ?_, ⟨by rw [j1, l], fun c hc => b c (j2 c hc)⟩, g⟩
  show b_law_word [.pl (.ref 1), .pl (.int (k : Int)), .no] _ = _
  have sm : sm62 (k : Int) = true := by unfold sm62; exact decide_eq_true (by omega)
  have lc : (rngD 0 (k : Int)).length ≤ cap := by rw [rng_len]; show k ≤ 1000000; omega
  have js : joinS (.str (Str.ofString "")) (.lst (cs.map fun c => D.str (let1 c))) = some (.pl (.str (Txt.join (Str.ofString "") (cs.map let1)))) := by
    have e1 : (cs.map fun c => D.str (let1 c)) = (cs.map let1).map D.str := by rw [List.map_map]; rfl
    have e2 : ((cs.map let1).map (·.length)).sum + (cs.map let1).length * (Str.ofString "").length ≤ 16777216 := by
      have : ∀ ds : List Nat, ((ds.map let1).map (·.length)).sum = ds.length := fun ds => by
        induction ds with
        | nil => rfl
        | cons d ds ih =>
          have q : (let1 d).length = 1 := rfl
          simp only [List.map_cons, List.sum_cons, List.length_cons, q, ih]; omega
      rw [this, show (Str.ofString "").length = 0 from by decide +kernel]
      simp; omega
    rw [e1]
    simp only [joinS, strsD_map, if_pos e2]
  have habc : Str.ofString "abcdefghijklmnopqrstuvwxyz" = abc := rfl
  simp only [b_law_word, habc]
  have ec : eComp (.nm 2) (iRng1 [eV 1]) (tYes') (eB ixS (eC (.str abc)) (eFn f_law_draw [] [eV 0, eC (.int 26)])) [.pl (.ref 1), .pl (.int (k : Int)), .no] S = .ok (.own (cs.map fun c => D.str (let1 c))) S' := by
    rw [x_eComp, x_iRng1]
    rw [show fA [eV 1] [.pl (.ref 1), .pl (.int (k : Int)), .no] S = .ok [.pl (.int (k : Int))] S from by simp]
    simp only [bind_ok, if_pos sm, if_pos lc, x_slots, x_wipe1, x_wipe0, List.set_cons_succ, List.set_cons_zero]
    rw [e]; rfl
  rw [x_sRet, x_eM1]
  simp only [x_rd, x_eC, rd1_pl, bind_ok, ec]
  simp [isS, js]
theorem perm_map {α β : Type} {f : α → β} {zs ws : List β} (p : zs.Perm ws) : ∀ xs : List α, ws = xs.map f → ∃ ys : List α, zs = ys.map f ∧ ys.Perm xs := by
  induction p with
  | nil => exact fun xs e => ⟨[], rfl, by cases xs with | nil => exact .nil | cons _ _ => cases e⟩
  | cons x p ih =>
    intro xs e
    cases xs with
    | nil => cases e
    | cons a xs =>
      rw [List.map_cons, List.cons.injEq] at e
      obtain ⟨ys, h1, h2⟩ := ih xs e.2
      exact ⟨a :: ys, by rw [List.map_cons, h1, e.1], h2.cons a⟩
  | swap x y l =>
    intro xs e
    match xs, e with
    | a :: b :: xs, e =>
      rw [List.map_cons, List.map_cons, List.cons.injEq, List.cons.injEq] at e
      exact ⟨b :: a :: xs, by rw [List.map_cons, List.map_cons, e.1, e.2.1, e.2.2], .swap a b xs⟩
  | trans p q ih1 ih2 =>
    intro xs e
    obtain ⟨ys, h1, h2⟩ := ih2 xs e
    obtain ⟨zs, h3, h4⟩ := ih1 ys h1
    exact ⟨zs, h3, h4.trans h2⟩
theorem pick {L : List Int} {r : Int} (h0 : 0 ≤ r) (h1 : r < L.length) : ∃ v, v ∈ L ∧ ixS (.lst (L.map D.int)) (.int r) = some (.pl (.int v)) := by
  obtain ⟨j, rfl⟩ : ∃ j : Nat, r = j := ⟨r.toNat, by omega⟩
  have jl : j < L.length := by omega
  refine ⟨L[j], List.getElem_mem jl, ?_⟩
  show (atI (L.map D.int) (j : Int)).map Sl.pl = _
  rw [atI_nat (x := D.int L[j]) (by simp [jl])]
  rfl
theorem okN_of {x : Str} (h : (decide (1 ≤ x.length) && decide (x.length ≤ 8) && x.cps.toList.all fun c => decide (97 ≤ c) && decide (c ≤ 122)) = true) : okN x := by
  simp only [Bool.and_eq_true, decide_eq_true_eq, List.all_eq_true] at h
  exact ⟨h.1.1, h.1.2, h.2⟩
theorem cut_mid (xs : List D) (i k : Nat) (h : i ≤ xs.length) : cutD xs (some (i : Int)) (some ((i + k : Nat) : Int)) = (xs.drop i).take k := by
  unfold cutD
  rw [HT.sIx_nat, HT.sIx_nat]
  rw [Nat.min_eq_left h]
  by_cases c : i + k ≤ xs.length
  · rw [Nat.min_eq_left c]; congr 1; omega
  · rw [Nat.min_eq_right (by omega), List.take_of_length_le (by simp), List.take_of_length_le (by simp; omega)]
def nineB : List Str := [Str.ofString "a", Str.ofString "an", Str.ofString "b", Str.ofString "bo", Str.ofString "eightsig", Str.ofString "eightsih", Str.ofString "d", Str.ofString "owners", Str.ofString "zz"]
theorem nineB_ok : ∀ x ∈ nineB, okN x := by
  have h : nineB.all (fun x => decide (1 ≤ x.length) && decide (x.length ≤ 8) && x.cps.toList.all fun c => decide (97 ≤ c) && decide (c ≤ 122)) = true := by decide +kernel
  exact fun x hx => okN_of (List.all_eq_true.mp h x hx)
theorem nineB_nodup : nineB.Nodup := by decide +kernel
theorem nineB_len : ∀ x ∈ nineB, x.length ≠ 4 ∧ x.length ≠ 5 ∧ x.length ≠ 7 ∧ (x.length = 6 → x.cps.toList.head? = some 111) := by
  have h : nineB.all (fun x => decide (x.length ≠ 4) && (decide (x.length ≠ 5) && (decide (x.length ≠ 7) && (!decide (x.length = 6) || decide (x.cps.toList.head? = some 111))))) = true := by decide +kernel
  intro x hx
  have := List.all_eq_true.mp h x hx
  simp only [Bool.and_eq_true, decide_eq_true_eq, Bool.or_eq_true, Bool.not_eq_true', decide_eq_false_iff_not] at this
  exact ⟨this.1, this.2.1, this.2.2.1, fun e => this.2.2.2.resolve_left (fun z => z e)⟩
def isNew (x : Str) : Prop := isW 6 x ∧ x.cps.toList.head? = some 110
structure NM (ow ps : List Str) : Prop where
  o1 : 1 ≤ ow.length
  o2 : ow.length ≤ 4
  on : ∀ o ∈ ow, okN o
  od : ow.Nodup
  pn : ∀ o ∈ ps, okN o
  pe : ps ≠ []
  pl : ps.length ≤ 11
  p2 : 2 ≤ ps.length
  nd : ps.Nodup
  dj : ∀ x ∈ ps, x ∉ ow
  no : ∀ x ∈ ow, ¬ isNew x
  np : ∀ x ∈ ps, ¬ isNew x
theorem names_ok {n : Nat} {S : Ms} (h : Gen n S) (hn : n ≤ 90000000) : ∃ ow ps S', f_law_owners_and_names [.pl (.ref 1)] S = .ok (.pl (.tup [NL ow, NL ps])) S' ∧ NM ow ps ∧ Gen (n + 30) S' := by
  obtain ⟨r1, S1, e1, a1, b1, g1⟩ := draw_ok (k := 2) h (by omega) (by omega) (by omega)
  obtain ⟨m1, hm1⟩ : ∃ m : Nat, 4 + r1 = m := ⟨(4 + r1).toNat, by omega⟩
  obtain ⟨w1, S2, e2, i2, g2⟩ := word_ok (k := m1) g1 (by omega) (by omega)
  obtain ⟨w2, S3, e3, i3, g3⟩ := word_ok (k := 7) g2 (by omega) (by omega)
  have okall : ∀ x ∈ nineB ++ [w1, w2], okN x := fun x hx => by
    rcases List.mem_append.mp hx with q | q
    · exact nineB_ok x q
    · simp only [List.mem_cons, List.not_mem_nil, or_false] at q
      rcases q with rfl | rfl
      · exact i2.n (by omega) (by omega)
      · exact i3.n (by omega) (by omega)
  have ndall : (nineB ++ [w1, w2]).Nodup := by
    refine List.nodup_append.mpr ⟨nineB_nodup, ?_, fun x hx y hy => ?_⟩
    · have : w1 ≠ w2 := fun z => by
        have h1 := i2.1
        rw [z, i3.1] at h1; omega
      simp [this]
    · have l := nineB_len x hx
      simp only [List.mem_cons, List.not_mem_nil, or_false] at hy
      intro z
      subst z
      rcases hy with rfl | rfl
      · have h1 := i2.1; omega
      · have h1 := i3.1; omega
  have newall : ∀ x ∈ nineB ++ [w1, w2], ¬ isNew x := fun x hx ⟨q1, q2⟩ => by
    rcases List.mem_append.mp hx with q | q
    · have := (nineB_len x q).2.2.2 q1.1
      rw [q2] at this
      injection this with this
      omega
    · simp only [List.mem_cons, List.not_mem_nil, or_false] at q
      rcases q with rfl | rfl
      · have h1 := i2.1; have h2 := q1.1; omega
      · have h1 := i3.1; have h2 := q1.1; omega
  obtain ⟨zs, S4, e4, p4, g4⟩ := shuffle_ok (xs := (nineB ++ [w1, w2]).map D.str) g3 (by simp [nineB]; omega) (by simp [nineB])
  obtain ⟨ns, rfl, pn⟩ := perm_map p4 _ rfl
  have okn : ∀ x ∈ ns, okN x := fun x hx => okall x (pn.mem_iff.mp hx)
  have ndn : ns.Nodup := pn.nodup_iff.mpr ndall
  have nwn : ∀ x ∈ ns, ¬ isNew x := fun x hx => newall x (pn.mem_iff.mp hx)
  have ln : ns.length = 11 := pn.length_eq
  have g4' : Gen (n + 1 + m1 + 7 + 11) S4 := g4
  obtain ⟨r5, S5, e5, a5, b5, g5⟩ := draw_ok (k := 4) g4' (by omega) (by omega) (by omega)
  obtain ⟨r6, S6, e6, a6, b6, g6⟩ := draw_ok (k := 5) g5 (by omega) (by omega) (by omega)
  obtain ⟨i, hi⟩ : ∃ i : Nat, 1 + r5 = i := ⟨(1 + r5).toNat, by omega⟩
  obtain ⟨k, hk⟩ : ∃ k : Nat, (i : Int) + 2 + r6 = ((i + k : Nat) : Int) := ⟨(2 + r6).toNat, by omega⟩
  have c1 : cutD (ns.map D.str) none (some (i : Int)) = (ns.take i).map D.str := by rw [cut_take, List.map_take]
  have c2 : cutD (ns.map D.str) (some (i : Int)) (some ((i : Int) + 2 + r6)) = ((ns.drop i).take k).map D.str := by
    rw [hk, cut_mid (ns.map D.str) i k (by simp; omega), List.map_take, List.map_drop]
  have nd2 := List.nodup_append.mp (by rw [List.take_append_drop]; exact ndn : (ns.take i ++ ns.drop i).Nodup)
  refine ⟨ns.take i, (ns.drop i).take k, S6, run_rt ?_, ⟨by rw [List.length_take]; omega, by rw [List.length_take]; omega, fun x hx => okn x (List.mem_of_mem_take hx), ndn.sublist (List.take_sublist _ _), fun x hx => okn x (List.mem_of_mem_drop (List.mem_of_mem_take hx)), ?_, by simp; omega, by simp; omega, (ndn.sublist (List.drop_sublist _ _)).sublist (List.take_sublist _ _), fun x hx hx2 => nd2.2.2 x hx2 x (List.mem_of_mem_take hx) rfl, fun x hx => nwn x (List.mem_of_mem_take hx), fun x hx => nwn x (List.mem_of_mem_drop (List.mem_of_mem_take hx))⟩, g6.mono (by omega)⟩
  · show b_law_owners_and_names [.pl (.ref 1), .no, .no] _ = _
    have l9 : 9 ≤ cap := by decide
    have l2 : 2 ≤ cap := by decide
    refine seq_ok (δ1 := [.pl (.ref 1), .pl (NL nineB), .no]) (S1 := S) (by simp [l9, nineB]) ?_
    have ad : addS (NL nineB) (.lst [.str w1, .str w2]) = some (.own ((nineB ++ [w1, w2]).map D.str)) := by
      rw [x_addL (by show _ ≤ 1000000; simp [nineB]), List.map_append]; rfl
    have e2' := e2
    rw [← hm1] at e2'
    have e3' : f_law_word [.pl (.ref 1), .pl (.int 7)] S2 = .ok (.pl (.str w2)) S3 := e3
    generalize hz : nineB ++ [w1, w2] = nb at *
    refine seq_ok (δ1 := [.pl (.ref 1), .pl (NL nb), .no]) (S1 := S3) (by simp [e1, e2', e3', l2, ad]) ?_
    refine seq_ok (δ1 := [.pl (.ref 1), .pl (NL ns), .no]) (S1 := S4) (by simp [e4]) ?_
    refine seq_ok (δ1 := [.pl (.ref 1), .pl (NL ns), .pl (.int i)]) (S1 := S5) (by simp [e5, hi]) ?_
    simp [e6, c1, c2, l2]
  · intro z
    have := congrArg List.length z
    simp at this; omega
end Gt
set_option Elab.async false
set_option linter.all false
set_option maxRecDepth 100000
set_option maxHeartbeats 1000000
namespace Gt
open PySem PySem.Spec PyProof.Rows L2
theorem neS_GLn {xs : List Gr} (h : ∀ x ∈ xs, okGS x) : neS (GL xs) (.lst []) = some (.pl (.bl (!decide (xs = [])))) := neS_GL (y := []) h (fun z hz => by cases hz)
theorem pow30 : powS (.int 10) (.int 30) = some (.pl (.int 1000000000000000000000000000000)) := rfl
theorem gx0 (z : Gr) : ixS (G z) (.int 0) = some (.pl (.int z.t)) := rfl
theorem gx1 (z : Gr) : ixS (G z) (.int 1) = some (.pl (.str z.g)) := rfl
theorem gx2 (z : Gr) : ixS (G z) (.int 2) = some (.pl (.str z.k)) := rfl
theorem gx3 (z : Gr) : ixS (G z) (.int 3) = some (.pl (.int z.l)) := rfl
theorem gx4 (z : Gr) : ixS (G z) (.int 4) = some (.pl (.int z.p)) := rfl
abbrev entF : Fs := sIf (tAnd' (tB' (eB neS (eV 6) (eLst []))) (tB' (eB gtS (eFn f_law_draw [] [eV 0, eC (.int 3)]) (eC (.int 0))))) (sSeq (sAsg 14 (eFn f_law_pick [] [eV 0, eV 6]))
  (sIf (tB' (eB neS (eB ixS (eV 14) (eC (.int 2))) (eV 8))) (sSeq (sAsg 13 (eB ixS (eV 14) (eC (.int 2))))
  (sSeq (sAsg 11 (eB addS (eC (.int 1)) (eFn f_law_draw [] [eV 0, eB ixS (eV 14) (eC (.int 3))])))
  (sSeq (sAsg 12 (eFn f_law_draw [] [eV 0, eB addS (eB ixS (eV 14) (eC (.int 4))) (eC (.int 1))]))
  (sAsg 10 (eCall min2S [eB addS (eB ixS (eV 14) (eC (.int 0))) (eFn f_law_draw [] [eV 0, eC (.int 3)]), eB powS (eC (.int 10)) (eC (.int 30))]))))) (sNx))) (sNx)
abbrev entB : Fs := sSeq (sAsg 8 (eFn f_law_pick [] [eV 0, eV 2]))
  (sSeq (sAsg 9 (eComp (.nm 16) (iE (eB addS (eV 1) (eV 2))) (tB' (eB neS (eV 16) (eV 8))) (eV 16)))
  (sSeq (sAsg 10 (eB subS (eFn f_law_draw [] [eV 0, eB addS (eB mulS (eC (.int 2)) (eV 4)) (eC (.int 1))]) (eV 4)))
  (sSeq (sPar 11 12 (eB addS (eC (.int 1)) (eFn f_law_draw [] [eV 0, eC (.int 9)])) (eFn f_law_draw [] [eV 0, eB addS (eV 5) (eC (.int 1))]))
  (sSeq (sAsg 13 (eFn f_law_pick [] [eV 0, eV 9]))
  (sSeq entF
  (sSeq (sAsg 15 (eTup [eV 10, eV 13, eV 8, eV 11, eV 12]))
  (sIf (tB' (eB notInS (eV 15) (eV 6))) (sApp 6 (eV 15)) (sNx))))))))
section
variable {ow ps : List Str} {most far deep : Int}
abbrev entE (ow ps : List Str) (most far deep : Int) (gs : List Gr) (a7 : Sl) (tk : Str) (b9 : Sl) (x : Gr) (a14 a15 : Sl) : Evm := [.pl (.ref 1), .pl (NL ow), .pl (NL ps), .pl (.int most), .pl (.int far), .pl (.int deep), .own (gs.map G), a7, .pl (.str tk), b9, .pl (.int x.t), .pl (.int x.l), .pl (.int x.p), .pl (.str x.g), a14, a15, .no]
theorem entF_ok {n : Nat} {S : Ms} {gs : List Gr} {tk : Str} {x : Gr} {a7 b9 a14 a15 : Sl} (h : Gen n S) (hn : n ≤ 99000000) (hg : ∀ g ∈ gs, okG g) (hgk : ∀ g ∈ gs, g.k ∈ ps) (lg : gs.length ≤ 1000) (hx : okG x) (hk : x.k = tk) (hxg : x.g ∈ ow ++ ps) :
    ∃ (y : Gr) (c14 : Sl) (S' : Ms), entF (entE ow ps most far deep gs a7 tk b9 x a14 a15) S = .ok (.nx (entE ow ps most far deep gs a7 tk b9 y c14 a15)) S' ∧ okG y ∧ y.k = tk ∧ y.g ∈ ow ++ ps ∧ Gen (n + 5) S' := by
  have ne := neS_GLn fun x hx => (hg x hx).s
  by_cases c0 : gs = []
  · exact ⟨x, a14, S, by simp [entF, entE, ne]; simp [c0], hx, hk, hxg, h.mono (by omega)⟩
  obtain ⟨r1, S1, e1, a1, b1, g1⟩ := draw_ok (k := 3) h (by omega) (by omega) (by omega)
  by_cases c1 : 0 < r1
  · obtain ⟨d, S2, e2, m2, g2⟩ := pickB_ok (xs := gs.map G) g1 (by omega) (by simpa using c0) (by simp; omega)
    obtain ⟨o, ho, rfl⟩ := List.mem_map.mp m2
    have oko := hg o ho
    have e := neS_str oko.k.s hx.k.s
    rw [hk] at e
    by_cases c2 : o.k = tk
    · exact ⟨x, .pl (G o), S2, by simp [entF, entE, ne, c0, e1, c1, e2, gx2, e, c2], hx, hk, hxg, g2.mono (by omega)⟩
    · have o1 := oko.l1
      have o2 := oko.l2
      have o3 := oko.p1
      have o4 := oko.p2
      have o5 := oko.t1
      have o6 := oko.t2
      obtain ⟨r3, S3, e3, a3, b3, g3⟩ := draw_ok (k := o.l) g2 (by omega) (by omega) (by omega)
      obtain ⟨r4, S4, e4, a4, b4, g4⟩ := draw_ok (k := o.p + 1) g3 (by omega) (by omega) (by omega)
      obtain ⟨r5, S5, e5, a5, b5, g5⟩ := draw_ok (k := 3) g4 (by omega) (by omega) (by omega)
      refine ⟨⟨if 1000000000000000000000000000000 < o.t + r5 then 1000000000000000000000000000000 else o.t + r5, o.k, tk, 1 + r3, r4⟩, .pl (G o), S5, by simp [entF, entE, ne, c0, e1, c1, e2, gx0, gx2, gx3, gx4, e, c2, e3, e4, e5, pow30], ⟨?_, ?_, oko.k, by rw [← hk]; exact hx.k, c2, ?_, ?_, a4, ?_⟩, rfl, List.mem_append_right _ (hgk o ho), g5⟩
      all_goals
        simp only
        first | omega | (split <;> omega)
  · exact ⟨x, a14, S1, by simp [entF, entE, ne, c0, e1, c1], hx, hk, hxg, g1.mono (by omega)⟩
theorem entB_ok (V : NM ow ps) {n : Nat} {S : Ms} {gs : List Gr} {a7 a8 a9 a10 a11 a12 a13 a14 a15 : Sl} (h : Gen n S) (hn : n + 10 ≤ 99000000) (hg : ∀ g ∈ gs, okG g) (hgk : ∀ g ∈ gs, g.k ∈ ps ∧ g.g ∈ ow ++ ps) (nd : gs.Nodup) (lg : gs.length ≤ 900) (f0 : 1 ≤ far) (f1 : far ≤ 1000000000000000000000000000000) (d0 : 0 ≤ deep) (d1 : deep ≤ 20) :
    ∃ (gs' : List Gr) (b8 b9 b10 b11 b12 b13 b14 b15 : Sl) (S' : Ms), entB [.pl (.ref 1), .pl (NL ow), .pl (NL ps), .pl (.int most), .pl (.int far), .pl (.int deep), .own (gs.map G), a7, a8, a9, a10, a11, a12, a13, a14, a15, .no] S = .ok (.nx [.pl (.ref 1), .pl (NL ow), .pl (NL ps), .pl (.int most), .pl (.int far), .pl (.int deep), .own (gs'.map G), a7, b8, b9, b10, b11, b12, b13, b14, b15, .no]) S' ∧
      Gen (n + 10) S' ∧ (∀ g ∈ gs', okG g) ∧ (∀ g ∈ gs', g.k ∈ ps ∧ g.g ∈ ow ++ ps) ∧ gs'.Nodup ∧ gs'.length ≤ gs.length + 1 := by
  obtain ⟨d1', S1, e1, m1, g1⟩ := pick_ok (xs := ps.map D.str) h (by omega) (by simpa using V.pe) (by have := V.pl; simp; omega)
  obtain ⟨tk, htk, rfl⟩ := List.mem_map.mp m1
  have okt := V.pn tk htk
  have oka : ∀ x ∈ ow ++ ps, okN x := fun x hx => by
    rcases List.mem_append.mp hx with q | q
    · exact V.on x q
    · exact V.pn x q
  have la : (ow ++ ps).length ≤ 15 := by have := V.o2; have := V.pl; simp; omega
  have ad : addS (NL ow) (NL ps) = some (.own ((ow ++ ps).map .str)) := by
    rw [x_addL (by show _ ≤ 1000000; have := V.o2; have := V.pl; simp; omega), ← List.map_append]
  have hc := comp_typed (tg := .nm 16) (t := tB' (eB neS (eV 16) (eV 8))) (f := eV 16) (δ := [.pl (.ref 1), .pl (NL ow), .pl (NL ps), .pl (.int most), .pl (.int far), .pl (.int deep), .own (gs.map G), a7, .pl (.str tk), a9, a10, a11, a12, a13, a14, a15, .no]) (S := S1) D.str (fun y => !decide (y = tk)) D.str (ow ++ ps) fun y hy => by
    refine ⟨[.pl (.ref 1), .pl (NL ow), .pl (NL ps), .pl (.int most), .pl (.int far), .pl (.int deep), .own (gs.map G), a7, .pl (.str tk), a9, a10, a11, a12, a13, a14, a15, .pl (.str y)], by simp, ?_, fun _ => ⟨.pl (.str y), by simp, rfl⟩⟩
    simp [neS_str (oka y hy).s okt.s]
  generalize hgv : (ow ++ ps).filter (fun y => !decide (y = tk)) = gv at hc
  have mgv : ∀ x ∈ gv, x ∈ ow ++ ps ∧ x ≠ tk := fun x hx => by
    rw [← hgv] at hx
    have := List.mem_filter.mp hx
    exact ⟨this.1, by simpa using this.2⟩
  have lgv : gv.length ≤ 15 := by rw [← hgv]; exact Nat.le_trans (List.length_filter_le _ _) la
  have nev : gv ≠ [] := by
    intro z
    obtain ⟨o, ho⟩ := List.exists_mem_of_length_pos (show 0 < ow.length from V.o1)
    have : o ∈ gv := by
      rw [← hgv]
      refine List.mem_filter.mpr ⟨List.mem_append_left _ ho, ?_⟩
      have : o ≠ tk := fun q => V.dj tk htk (q ▸ ho)
      simp [this]
    rw [z] at this; cases this
  obtain ⟨r2, S2, e2, a2, b2, g2⟩ := draw_ok (k := 2 * far + 1) g1 (by omega) (by omega) (by omega)
  obtain ⟨r3, S3, e3, a3, b3, g3⟩ := draw_ok (k := 9) g2 (by omega) (by omega) (by omega)
  obtain ⟨r4, S4, e4, a4, b4, g4⟩ := draw_ok (k := deep + 1) g3 (by omega) (by omega) (by omega)
  obtain ⟨d5, S5, e5, m5, g5⟩ := pick_ok (xs := gv.map D.str) g4 (by omega) (by simpa using nev) (by simp; omega)
  obtain ⟨gi, hgi, rfl⟩ := List.mem_map.mp m5
  obtain ⟨q1, q2⟩ := mgv gi hgi
  have hx : okG ⟨r2 - far, gi, tk, 1 + r3, r4⟩ := ⟨by simp only; omega, by simp only; omega, oka gi q1, okt, q2, by simp only; omega, by simp only; omega, a4, by simp only; omega⟩
  obtain ⟨y, c14, S6, e6, oky, ky, gy, g6⟩ := entF_ok (ow := ow) (ps := ps) (most := most) (far := far) (deep := deep) (a7 := a7) (b9 := .pl (NL gv)) (a14 := a14) (a15 := a15) (tk := tk) g5 (by omega) hg (fun g m => (hgk g m).1) (by omega) hx rfl q1
  have sf : smallI far = true := small_in (by omega) (by omega)
  have s2 : smallI 2 = true := by decide +kernel
  have hny := notInS_of (inD_GL oky.s fun z hz => (hg z hz).s)
  have l5 : 5 ≤ cap := by decide
  have lcap : (ow ++ ps).length ≤ cap := by show _ ≤ 1000000; omega
  have lcg : gs.length < cap := by show _ < 1000000; omega
  have step : ∀ gs' : List Gr, (sSeq (sAsg 15 (eTup [eV 10, eV 13, eV 8, eV 11, eV 12])) (sIf (tB' (eB notInS (eV 15) (eV 6))) (sApp 6 (eV 15)) (sNx))) (entE ow ps most far deep gs a7 tk (.pl (NL gv)) y c14 a15) S6 = .ok (.nx (entE ow ps most far deep gs' a7 tk (.pl (NL gv)) y c14 (.pl (G y)))) S6 → (∀ g ∈ gs', okG g) → (∀ g ∈ gs', g.k ∈ ps ∧ g.g ∈ ow ++ ps) → gs'.Nodup → gs'.length ≤ gs.length + 1 →
    ∃ (gs' : List Gr) (b8 b9 b10 b11 b12 b13 b14 b15 : Sl) (S' : Ms), entB [.pl (.ref 1), .pl (NL ow), .pl (NL ps), .pl (.int most), .pl (.int far), .pl (.int deep), .own (gs.map G), a7, a8, a9, a10, a11, a12, a13, a14, a15, .no] S = .ok (.nx [.pl (.ref 1), .pl (NL ow), .pl (NL ps), .pl (.int most), .pl (.int far), .pl (.int deep), .own (gs'.map G), a7, b8, b9, b10, b11, b12, b13, b14, b15, .no]) S' ∧
      Gen (n + 10) S' ∧ (∀ g ∈ gs', okG g) ∧ (∀ g ∈ gs', g.k ∈ ps ∧ g.g ∈ ow ++ ps) ∧ gs'.Nodup ∧ gs'.length ≤ gs.length + 1 := by
    intro gs' eb k1 k2 k3 k4
    refine ⟨gs', .pl (.str tk), .pl (NL gv), .pl (.int y.t), .pl (.int y.l), .pl (.int y.p), .pl (.str y.g), c14, .pl (G y), S6, ?_, g6, k1, k2, k3, k4⟩
    refine seq_ok (δ1 := [.pl (.ref 1), .pl (NL ow), .pl (NL ps), .pl (.int most), .pl (.int far), .pl (.int deep), .own (gs.map G), a7, .pl (.str tk), a9, a10, a11, a12, a13, a14, a15, .no]) (S1 := S1) (by simp [e1]) ?_
    refine seq_ok (δ1 := [.pl (.ref 1), .pl (NL ow), .pl (NL ps), .pl (.int most), .pl (.int far), .pl (.int deep), .own (gs.map G), a7, .pl (.str tk), .pl (NL gv), a10, a11, a12, a13, a14, a15, .no]) (S1 := S1) (by
      generalize hz : ow ++ ps = z at ad hc lcap
      simp [ad, lcap, hc]) ?_
    refine seq_ok (δ1 := [.pl (.ref 1), .pl (NL ow), .pl (NL ps), .pl (.int most), .pl (.int far), .pl (.int deep), .own (gs.map G), a7, .pl (.str tk), .pl (NL gv), .pl (.int (r2 - far)), a11, a12, a13, a14, a15, .no]) (S1 := S2) (by simp [x_mul s2 sf, e2]) ?_
    refine seq_ok (δ1 := [.pl (.ref 1), .pl (NL ow), .pl (NL ps), .pl (.int most), .pl (.int far), .pl (.int deep), .own (gs.map G), a7, .pl (.str tk), .pl (NL gv), .pl (.int (r2 - far)), .pl (.int (1 + r3)), .pl (.int r4), a13, a14, a15, .no]) (S1 := S4) (by simp [e3, e4]) ?_
    refine seq_ok (δ1 := entE ow ps most far deep gs a7 tk (.pl (NL gv)) ⟨r2 - far, gi, tk, 1 + r3, r4⟩ a14 a15) (S1 := S5) (by simp [entE, e5]) ?_
    exact seq_ok e6 eb
  have hG : D.tup [.int y.t, .str y.g, .str tk, .int y.l, .int y.p] = G y := by rw [← ky]; rfl
  by_cases c2 : y ∈ gs
  · exact step gs (by simp [entE, l5, hG, hny, c2]) hg hgk nd (by omega)
  · refine step (gs ++ [y]) (by simp [entE, l5, hG, hny, c2, lcg]) ?_ ?_ ?_ (by simp)
    · intro g hg'
      rcases List.mem_append.mp hg' with q | q
      · exact hg g q
      · simp only [List.mem_singleton] at q; subst q; exact oky
    · intro g hg'
      rcases List.mem_append.mp hg' with q | q
      · exact hgk g q
      · simp only [List.mem_singleton] at q; subst q; rw [ky]; exact ⟨htk, gy⟩
    · exact List.nodup_append.mpr ⟨nd, by simp, fun u hu z hz => by simp only [List.mem_singleton] at hz; subst hz; intro q; subst q; exact c2 hu⟩
theorem ent_loop (V : NM ow ps) (f0 : 1 ≤ far) (f1 : far ≤ 1000000000000000000000000000000) (d0 : 0 ≤ deep) (d1 : deep ≤ 20) : ∀ (ks : List D) (n : Nat) (S : Ms) (gs : List Gr) (a7 a8 a9 a10 a11 a12 a13 a14 a15 : Sl), Gen n S → n + 10 * ks.length ≤ 99000000 →
    (∀ g ∈ gs, okG g) → (∀ g ∈ gs, g.k ∈ ps ∧ g.g ∈ ow ++ ps) → gs.Nodup → gs.length + ks.length ≤ 900 →
    ∃ (gs' : List Gr) (b7 b8 b9 b10 b11 b12 b13 b14 b15 : Sl) (S' : Ms), loop (.nm 7) entB ks [.pl (.ref 1), .pl (NL ow), .pl (NL ps), .pl (.int most), .pl (.int far), .pl (.int deep), .own (gs.map G), a7, a8, a9, a10, a11, a12, a13, a14, a15, .no] S = .ok (.nx [.pl (.ref 1), .pl (NL ow), .pl (NL ps), .pl (.int most), .pl (.int far), .pl (.int deep), .own (gs'.map G), b7, b8, b9, b10, b11, b12, b13, b14, b15, .no]) S' ∧
      Gen (n + 10 * ks.length) S' ∧ (∀ g ∈ gs', okG g) ∧ (∀ g ∈ gs', g.k ∈ ps ∧ g.g ∈ ow ++ ps) ∧ gs'.Nodup ∧ gs'.length ≤ gs.length + ks.length := by
  intro ks
  induction ks with
  | nil => exact fun n S gs a7 a8 a9 a10 a11 a12 a13 a14 a15 h _ h1 h2 h3 _ => ⟨gs, a7, a8, a9, a10, a11, a12, a13, a14, a15, S, rfl, by simpa using h, h1, h2, h3, by simp⟩
  | cons k ks ih =>
    intro n S gs a7 a8 a9 a10 a11 a12 a13 a14 a15 h hn h1 h2 h3 hl
    simp only [List.length_cons] at hn hl
    obtain ⟨gs1, b8, b9, b10, b11, b12, b13, b14, b15, S1, e, g1, k1, k2, k3, k4⟩ := entB_ok V (most := most) (a7 := .pl k) (a8 := a8) (a9 := a9) (a10 := a10) (a11 := a11) (a12 := a12) (a13 := a13) (a14 := a14) (a15 := a15) h (by omega) h1 h2 h3 (by omega) f0 f1 d0 d1
    obtain ⟨gs2, c7, c8, c9, c10, c11, c12, c13, c14, c15, S2, e2, g2, q1, q2, q3, q4⟩ := ih (n + 10) S1 gs1 (.pl k) b8 b9 b10 b11 b12 b13 b14 b15 g1 (by omega) k1 k2 k3 (by omega)
    refine ⟨gs2, c7, c8, c9, c10, c11, c12, c13, c14, c15, S2, ?_, by simp only [List.length_cons]; exact g2.mono (by omega), q1, q2, q3, by simp only [List.length_cons]; omega⟩
    rw [loop]
    simp only [x_setN, List.length_cons, List.length_nil]
    show (entB [.pl (.ref 1), .pl (NL ow), .pl (NL ps), .pl (.int most), .pl (.int far), .pl (.int deep), .own (gs.map G), .pl k, a8, a9, a10, a11, a12, a13, a14, a15, .no] S).bind _ = _
    rw [e]
    exact e2
theorem entries_ok (V : NM ow ps) {n : Nat} {S : Ms} (h : Gen n S) (hn : n ≤ 90000000) (m0 : 0 ≤ most) (m1 : most ≤ 60) : ∃ (gs : List Gr) (S' : Ms), f_law_entries [.pl (.ref 1), .pl (NL ow), .pl (NL ps), .pl (.int most)] S = .ok (.own (gs.map G)) S' ∧ (∀ g ∈ gs, okG g) ∧ (∀ g ∈ gs, g.k ∈ ps ∧ g.g ∈ ow ++ ps) ∧ gs.Nodup ∧ gs.length ≤ most ∧ Gen (n + 700) S' := by
  obtain ⟨r1, S1, e1, a1, b1, g1⟩ := draw_ok (k := 4) h (by omega) (by omega) (by omega)
  obtain ⟨r2, S2, e2, a2, b2, g2⟩ := draw_ok (k := 3) g1 (by omega) (by omega) (by omega)
  obtain ⟨r3, S3, e3, a3, b3, g3⟩ := draw_ok (k := most + 1) g2 (by omega) (by omega) (by omega)
  obtain ⟨far, hf, p1⟩ := pick (L := [2, 4, 12, 1000000000000000000000000000000]) a1 b1
  obtain ⟨deep, hd, p2⟩ := pick (L := [1, 3, 20]) a2 b2
  have hf' : 1 ≤ far ∧ far ≤ 1000000000000000000000000000000 := by simp only [List.mem_cons, List.not_mem_nil, or_false] at hf; omega
  have hd' : 0 ≤ deep ∧ deep ≤ 20 := by simp only [List.mem_cons, List.not_mem_nil, or_false] at hd; omega
  obtain ⟨m, rfl⟩ : ∃ m : Nat, r3 = m := ⟨r3.toNat, by omega⟩
  obtain ⟨gs, b7, b8, b9, b10, b11, b12, b13, b14, b15, S4, e4, g4, k1, k2, k3, k4⟩ := ent_loop V (most := most) hf'.1 hf'.2 hd'.1 hd'.2 (rngD 0 (m : Int)) _ S3 [] .no .no .no .no .no .no .no .no .no g3 (by rw [rng_len]; omega) (by simp) (by simp) (by simp) (by rw [rng_len]; simp; omega)
  rw [rng_len] at g4 k4
  simp only [List.length_nil, Nat.zero_add] at k4
  have sm : sm62 (m : Int) = true := by unfold sm62; exact decide_eq_true (by omega)
  have l4 : 4 ≤ cap := by decide
  have l3 : 3 ≤ cap := by decide
  refine ⟨gs, S4, run_rt ?_, k1, k2, k3, by omega, g4.mono (by omega)⟩
  show b_law_entries [.pl (.ref 1), .pl (NL ow), .pl (NL ps), .pl (.int most), .no, .no, .no, .no, .no, .no, .no, .no, .no, .no, .no, .no, .no] _ = _
  simp only [List.map_cons, List.map_nil] at p1 p2
  refine seq_ok (δ1 := [.pl (.ref 1), .pl (NL ow), .pl (NL ps), .pl (.int most), .pl (.int far), .no, .no, .no, .no, .no, .no, .no, .no, .no, .no, .no, .no]) (S1 := S1) (by simp [pow30, l4, e1, p1]) ?_
  refine seq_ok (δ1 := [.pl (.ref 1), .pl (NL ow), .pl (NL ps), .pl (.int most), .pl (.int far), .pl (.int deep), .no, .no, .no, .no, .no, .no, .no, .no, .no, .no, .no]) (S1 := S2) (by simp [l3, e2, p2]) ?_
  refine seq_ok (δ1 := [.pl (.ref 1), .pl (NL ow), .pl (NL ps), .pl (.int most), .pl (.int far), .pl (.int deep), .own [], .no, .no, .no, .no, .no, .no, .no, .no, .no, .no]) (S1 := S2) (by simp) ?_
  refine seq_ok (δ1 := [.pl (.ref 1), .pl (NL ow), .pl (NL ps), .pl (.int most), .pl (.int far), .pl (.int deep), .own (gs.map G), b7, b8, b9, b10, b11, b12, b13, b14, b15, .no]) (S1 := S4) ?_ (by simp)
  rw [x_sFor, x_iRng1]
  rw [show fA [eFn f_law_draw [] [eV 0, eB addS (eV 3) (eC (.int 1))]] [.pl (.ref 1), .pl (NL ow), .pl (NL ps), .pl (.int most), .pl (.int far), .pl (.int deep), .own [], .no, .no, .no, .no, .no, .no, .no, .no, .no, .no] S2 = .ok [.pl (.int (m : Int))] S3 from by simp [e3]]
  simp only [bind_ok]
  rw [if_pos sm]
  exact e4
end
end Gt
set_option Elab.async false
set_option linter.all false
set_option maxRecDepth 100000
set_option maxHeartbeats 1000000
namespace Gt
open PySem PySem.Spec PyProof.Rows L2
def unK : Key → Str
  | .inr x => x
  | .inl _ => ⟨#[]⟩
def kN (x : Str) : Key := Sum.inr x
def SN (xs : List Str) : List Str := (sortK (xs.map kN)).map unK
theorem SN_keys (xs : List Str) : sortK (xs.map kN) = (SN xs).map kN := by
  unfold SN
  rw [List.map_map]
  refine ((List.map_congr_left fun k hk => ?_).trans (List.map_id _)).symm
  obtain ⟨x, _, rfl⟩ := List.mem_map.mp (mem_sortK.mp hk)
  rfl
theorem SN_D (xs : List Str) : (sortK (xs.map kN)).map keyD = (SN xs).map D.str := by
  rw [SN_keys, List.map_map]; rfl
theorem mem_SN {xs : List Str} {x : Str} : x ∈ SN xs ↔ x ∈ xs := by
  constructor
  · intro h
    obtain ⟨k, hk, rfl⟩ := List.mem_map.mp h
    obtain ⟨y, hy, rfl⟩ := List.mem_map.mp (mem_sortK.mp hk)
    exact hy
  · intro h
    exact List.mem_map.mpr ⟨kN x, mem_sortK.mpr (List.mem_map.mpr ⟨x, h, rfl⟩), rfl⟩
def AN (xs : List Str) : Prop := xs.Nodup ∧ xs.Pairwise fun a b => kLe (kN a) (kN b) = true
theorem SN_an (xs : List Str) : AN (SN xs) := by
  have h1 := nodup_sortK (ks := xs.map kN)
  have h2 := sortK_sorted (xs.map kN)
  rw [SN_keys] at h1 h2
  exact ⟨(List.pairwise_map.mp h1).imp fun h e => h (by rw [e]), List.pairwise_map.mp h2⟩
theorem AN.sub {xs ys : List Str} (h : AN ys) (s : xs.Sublist ys) : AN xs := ⟨h.1.sublist s, h.2.sublist s⟩
theorem AN.same {xs ys : List Str} (h : AN xs) (h2 : AN ys) (m : ∀ x, x ∈ xs ↔ x ∈ ys) : xs = ys :=
  List.Perm.eq_of_pairwise (le := fun a b => kLe (kN a) (kN b) = true) (fun a b _ _ h1 h2 => by
    have := kLe_anti _ _ h1 h2
    injection this) h.2 h2.2 ((List.perm_ext_iff_of_nodup h.1 h2.1).mpr m)
theorem keysD_str : ∀ xs : List Str, keysD (xs.map D.str) = some (xs.map kN)
  | [] => rfl
  | x :: xs => by simp [keysD, keysD_str xs, kN]
theorem homK_kN (xs : List Str) : homK (xs.map kN) = true := by
  unfold homK
  simp [isSK, List.all_map, kN]
theorem sset_L {xs : List Str} (h : xs.length ≤ 4000) : sortSetS [NL xs] = some (.own ((SN xs).map D.str)) := by
  simp only [sortSetS, seqD, keysD_str, homK_kN, List.length_map, h, and_self, if_true, SN_D]
theorem sset_T {xs : List Str} (h : xs.length ≤ 4000) : sortSetS [NT xs] = some (.own ((SN xs).map D.str)) := by
  simp only [sortSetS, seqD, keysD_str, homK_kN, List.length_map, h, and_self, if_true, SN_D]
theorem ddK_len : ∀ ks : List Key, (ddK ks).length ≤ ks.length
  | [] => Nat.le_refl _
  | k :: ks => by
    have := ddK_len ks
    unfold ddK
    split
    · simp; omega
    · simp; omega
theorem SN_len (xs : List Str) : (SN xs).length ≤ xs.length := by
  unfold SN
  rw [List.length_map, (sortK_perm _).length_eq]
  have := ddK_len (xs.map kN)
  rwa [List.length_map] at this
theorem ddP_len : ∀ ks : List (Int × Int), (ddP ks).length ≤ ks.length
  | [] => Nat.le_refl _
  | k :: ks => by
    have := ddP_len ks
    unfold ddP
    split
    · simp; omega
    · simp; omega
theorem sortP_len (ps : List (Int × Int)) : (sortP ps).length ≤ ps.length := by
  unfold sortP
  rw [(List.mergeSort_perm _ _).length_eq]
  exact ddP_len ps
def nms (gs : List Gr) : List Str := gs.flatMap fun g => [g.g, g.k]
theorem mem_nms {gs : List Gr} {x : Str} : x ∈ nms gs ↔ ∃ g ∈ gs, x = g.g ∨ x = g.k := by simp [nms]
theorem nms_len (gs : List Gr) : (nms gs).length = 2 * gs.length := by
  induction gs with
  | nil => rfl
  | cons g gs ih =>
    have e : nms (g :: gs) = g.g :: g.k :: nms gs := rfl
    rw [e]; simp [ih]; omega
def pers (ow : List Str) (gs : List Gr) : List Str := (SN (nms gs)).filter fun x => !decide (x ∈ ow)
theorem mem_pers {ow : List Str} {gs : List Gr} {x : Str} : x ∈ pers ow gs ↔ (∃ g ∈ gs, x = g.g ∨ x = g.k) ∧ x ∉ ow := by simp [pers, mem_SN, mem_nms]
theorem comp2_typed {a : Sl} {S : Ms} : ∀ gs : List Gr, comp2L (.tp [2, 3, 4, 5, 6]) (iE (eTup [eV 3, eV 4])) (.nm 7) (eV 7) [a, .no, .no, .no, .no, .no, .no, .no] (gs.map G) S = .ok ((nms gs).map D.str) S
  | [] => rfl
  | g :: gs => by
    have l2 : 2 ≤ cap := by decide
    rw [List.map_cons, comp2L]
    have e : setT (.tp [2, 3, 4, 5, 6]) (G g) [a, .no, .no, .no, .no, .no, .no, .no] = some [a, .no, .pl (.int g.t), .pl (.str g.g), .pl (.str g.k), .pl (.int g.l), .pl (.int g.p), .no] := by simp [G]
    rw [e]
    dsimp only
    simp [l2, compL, comp2_typed gs, tYes']
    rfl
theorem persons_ok {ow : List Str} {gs : List Gr} (v : VRo ow gs) (S : Ms) : f_Roll_persons [.pl (Rl ow gs)] S = .ok (.pl (NT (pers ow (sortG gs)))) S := by
  have lg : (sortG gs).length ≤ 60 := by rw [(sortG_perm gs).length_eq]; exact v.g1
  have okn : ∀ x ∈ SN (nms (sortG gs)), okN x := fun x hx => by
    obtain ⟨g, hg, e⟩ := mem_nms.mp (mem_SN.mp hx)
    have := v.gg g (mem_sortG.mp hg)
    rcases e with rfl | rfl
    · exact this.g
    · exact this.k
  have hs : sortSetS [NL (nms (sortG gs))] = some (.own ((SN (nms (sortG gs))).map D.str)) := sset_L (by rw [nms_len]; omega)
  have ls : (SN (nms (sortG gs))).length ≤ cap := by
    have := SN_len (nms (sortG gs)); rw [nms_len] at this; show _ ≤ 1000000; omega
  have lc : (sortG gs).length ≤ cap := by show _ ≤ 1000000; omega
  refine run_rt ?_
  show b_Roll_persons [.pl (Rl ow gs), .no, .no, .no, .no, .no, .no, .no] _ = _
  have hc := comp_typed (tg := .nm 7) (t := tB' (eB notInS (eV 7) (eFld 0 0 (eV 0)))) (f := eV 7) (δ := [.pl (Rl ow gs), .pl (NL (SN (nms (sortG gs)))), .no, .no, .no, .no, .no, .no]) (S := S) D.str (fun y => !decide (y ∈ ow)) D.str (SN (nms (sortG gs))) fun y hy => by
    refine ⟨[.pl (Rl ow gs), .pl (NL (SN (nms (sortG gs)))), .no, .no, .no, .no, .no, .pl (.str y)], by simp, ?_, fun _ => ⟨.pl (.str y), by simp, rfl⟩⟩
    have : notInS (.str y) (NT (sortN ow)) = some (.pl (.bl (!decide (y ∈ ow)))) := notInS_of (by
      rw [inD_NT (okn y hy).s fun z hz => (v.on z (mem_sortN.mp hz)).s]; simp [mem_sortN])
    simp [Rl, this]
  refine seq_ok (δ1 := [.pl (Rl ow gs), .pl (NL (SN (nms (sortG gs)))), .no, .no, .no, .no, .no, .no]) (S1 := S) ?_ ?_
  · have e0 : (iE (eFld 0 1 (eV 0))) [.pl (Rl ow gs), .no, .no, .no, .no, .no, .no, .no] S = .ok ((sortG gs).map G) S := by simp [Rl]
    have e1 : eSc2 (.tp [2, 3, 4, 5, 6]) (iE (eFld 0 1 (eV 0))) (.nm 7) (iE (eTup [eV 3, eV 4])) (eV 7) [.pl (Rl ow gs), .no, .no, .no, .no, .no, .no, .no] S = .ok (.own ((SN (nms (sortG gs))).map D.str)) S := by
      unfold eSc2
      rw [e0, bind_ok, if_pos (by rw [List.length_map]; exact lc)]
      show (comp2L (.tp [2, 3, 4, 5, 6]) (iE (eTup [eV 3, eV 4])) (.nm 7) (eV 7) [.pl (Rl ow gs), .no, .no, .no, .no, .no, .no, .no] _ S).bind _ = _
      rw [comp2_typed, bind_ok]
      show lift (sortSetS [NL (nms (sortG gs))]) S = _
      rw [hs]; rfl
    rw [x_sAsg, e1]
    simp
  · generalize hz : SN (nms (sortG gs)) = z at hc ls
    simp [ls, hc, pers, hz]
def pr (g : Gr) : Int × Int := (g.l, g.p)
def cov (a b : Int × Int) : Bool := decide (b.1 ≤ a.1) && decide (b.2 ≤ a.2)
theorem prD_map : ∀ ps : List (Int × Int), (∀ p ∈ ps, okP p) → prD (ps.map prT) = some ps
  | [], _ => rfl
  | p :: ps, h => by
    obtain ⟨a, b, c, d⟩ := h p (by simp)
    have := prD_map ps fun q hq => h q (by simp [hq])
    simp [prD, prT, a, b, c, d] at this ⊢
    exact this
def mxl (ps : List (Int × Int)) : List (Int × Int) := (sortP ps).filter fun one => !((sortP ps).any fun o => !decide (o = one) && cov o one)
theorem p0 (p : Int × Int) : ixS (prT p) (.int 0) = some (.pl (.int p.1)) := rfl
theorem p1 (p : Int × Int) : ixS (prT p) (.int 1) = some (.pl (.int p.2)) := rfl
theorem okd_pr (p : Int × Int) : okp (prT p) = true := (okd.tup (n := 0) fun x hx => by
  simp only [List.mem_cons, List.not_mem_nil, or_false] at hx
  rcases hx with rfl | rfl <;> exact okd.int _).p (by decide)
theorem neS_pr (a b : Int × Int) : neS (prT a) (prT b) = some (.pl (.bl (!decide (a = b)))) := by
  have e : PyData.eqv (toPy (prT a)) (toPy (prT b)) = decide (a = b) := by
    simp only [prT, toPy_tup, List.map_cons, List.map_nil, toPy_int, PyData.eqv, PyData.eqvAll, Bool.and_true, Prod.ext_iff]
    rw [Bool.decide_and]; rfl
  simp [neS, eqD, okd_pr, e]
theorem covers_ok (a b : Int × Int) (S : Ms) : f_covers [.pl (prT a), .pl (prT b)] S = .ok (.pl (.bl (cov a b))) S := by
  refine run_rt ?_
  show b_covers [.pl (prT a), .pl (prT b)] _ = _
  by_cases c : b.1 ≤ a.1 <;> simp [b_covers, p0, p1, c, cov]
theorem maximal_ok {ps : List (Int × Int)} (h : ∀ p ∈ ps, okP p) (hl : ps.length < 64) (S : Ms) : f_maximal [.pl (.lst (ps.map prT))] S = .ok (.own ((mxl ps).map prT)) S := by
  have e1 : sortSetP [.lst (ps.map prT)] = some (.own ((sortP ps).map prT)) := by simp only [sortSetP, prD_map ps h, if_pos hl]
  have ls : (sortP ps).length ≤ cap := by
    have : (sortP ps).length ≤ ps.length := sortP_len ps
    show _ ≤ 1000000; omega
  refine run_rt ?_
  show b_maximal [.pl (.lst (ps.map prT)), .no, .no, .no] _ = _
  refine seq_ok (δ1 := [.pl (.lst (ps.map prT)), .pl (.lst ((sortP ps).map prT)), .no, .no]) (S1 := S) (by simp [e1]) ?_
  generalize hm : sortP ps = L at *
  have hc := comp_typed (tg := .nm 2) (t := tNot' (tV (eCall anyS [eComp (.nm 3) (iVc 1) (tYes') (eAnd (eB neS (eV 3) (eV 2)) (eFn f_covers [] [eV 3, eV 2]))]))) (f := eV 2) (δ := [.pl (.lst (ps.map prT)), .pl (.lst (L.map prT)), .no, .no]) (S := S) prT (fun one => !(L.any fun o => !decide (o = one) && cov o one)) prT L fun y hy => by
    refine ⟨[.pl (.lst (ps.map prT)), .pl (.lst (L.map prT)), .pl (prT y), .no], by simp, ?_, fun _ => ⟨.pl (prT y), by simp, rfl⟩⟩
    have hi := comp_typed (tg := .nm 3) (t := tYes') (f := eAnd (eB neS (eV 3) (eV 2)) (eFn f_covers [] [eV 3, eV 2])) (δ := [.pl (.lst (ps.map prT)), .pl (.lst (L.map prT)), .pl (prT y), .no]) (S := S) prT (fun _ => true) (fun o => .bl (!decide (o = y) && cov o y)) L fun o ho => by
      refine ⟨[.pl (.lst (ps.map prT)), .pl (.lst (L.map prT)), .pl (prT y), .pl (prT o)], by simp, rfl, fun _ => ⟨.pl (.bl (!decide (o = y) && cov o y)), ?_, rfl⟩⟩
      by_cases c : o = y
      · simp [neS_pr, c]
      · simp [neS_pr, c, covers_ok]
    rw [List.filter_eq_self.mpr (fun _ _ => rfl)] at hi
    have ha : anyS [.lst (L.map fun o => D.bl (!decide (o = y) && cov o y))] = some (.pl (.bl (L.any fun o => !decide (o = y) && cov o y))) := by
      simp only [anyS, bls_map]; simp [List.any_map]
    generalize (L.any fun o => !decide (o = y) && cov o y) = bb at ha
    simp [ls, hi, ha]
  have em : mxl ps = L.filter fun one => !(L.any fun o => !decide (o = one) && cov o one) := by unfold mxl; rw [hm]
  rw [← em] at hc
  simp [ls, hc]
theorem cov_trans {a b c : Int × Int} (h : cov a b = true) (g : cov b c = true) : cov a c = true := by
  simp only [cov, Bool.and_eq_true, decide_eq_true_eq] at *
  omega
theorem cov_self (a : Int × Int) : cov a a = true := by simp [cov]
theorem mxl_above {ps : List (Int × Int)} (h : ∀ p ∈ ps, okP p) : ∀ (n : Nat) (p : Int × Int), p ∈ ps → (200 - (p.1 + p.2)).toNat ≤ n → ∃ m ∈ mxl ps, cov m p = true
  | n, p, hp, hn => by
    cases e : ((sortP ps).any fun o => !decide (o = p) && cov o p) with
    | false => exact ⟨p, List.mem_filter.mpr ⟨mem_sortP.mpr hp, by rw [e]; rfl⟩, cov_self p⟩
    | true =>
      obtain ⟨o, ho, c⟩ := List.any_eq_true.mp e
      simp only [Bool.and_eq_true, Bool.not_eq_true', decide_eq_false_iff_not] at c
      have ho' := mem_sortP.mp ho
      obtain ⟨a1, a2, a3, a4⟩ := h o ho'
      have c2 := c.2
      simp only [cov, Bool.and_eq_true, decide_eq_true_eq] at c2
      have lt : p.1 + p.2 < o.1 + o.2 := by
        by_cases q : p.1 = o.1 ∧ p.2 = o.2
        · exact absurd (Prod.ext q.1.symm q.2.symm) c.1
        · omega
      match n with
      | 0 => omega
      | n + 1 =>
        obtain ⟨m, hm, cm⟩ := mxl_above h n o ho' (by omega)
        exact ⟨m, hm, cov_trans cm c.2⟩
theorem mxl_any {ps : List (Int × Int)} (h : ∀ p ∈ ps, okP p) (q : Int × Int) : ((mxl ps).any fun m => cov m q) = ps.any fun m => cov m q := by
  rw [Bool.eq_iff_iff, List.any_eq_true, List.any_eq_true]
  constructor
  · rintro ⟨m, hm, c⟩
    exact ⟨m, mem_sortP.mp (List.mem_filter.mp hm).1, c⟩
  · rintro ⟨p, hp, c⟩
    obtain ⟨m, hm, c2⟩ := mxl_above h _ p hp (Nat.le_refl _)
    exact ⟨m, hm, cov_trans c2 c⟩
end Gt
set_option Elab.async false
set_option linter.all false
set_option maxRecDepth 100000
set_option maxHeartbeats 1000000
namespace Gt
open PySem PySem.Spec PyProof.Rows L2
theorem counts_inT_ok {ow : List Str} {o : D} (ho : OwD ow o) {xs : List Gr} (h : ∀ x ∈ xs, okG x) (hl : xs.length ≤ 100000) (S : Ms) : f_counts_in [.pl o, .pl (GT xs)] S = .ok (.own ((cnt ow xs).map G)) S := by
  obtain ⟨c', e⟩ := counts_loop (b := GT xs) ho (S := S) (sortG xs) [] .no (fun x hx => h x (mem_sortG.mp hx)) (fun x hx => by cases hx) (by rw [(sortG_perm xs).length_eq]; simpa using hl)
  have s2 : sortS [GT xs] = some (.own ((sortG xs).map G)) := sortS_GT (fun g hg => (h g hg).s) (by show xs.length ≤ 1000000; omega)
  refine run_rt ?_
  show b_counts_in [.pl o, .pl (GT xs), .no, .no, .no] _ = _
  simp only [List.map_nil] at e
  simp only [b_counts_in, x_sSeq, x_sOwn, x_eLst, x_fA0, bind_ok, x_plA0]
  simp [s2, e, cnt]
theorem counting_ok {ow : List Str} {gs : List Gr} (v : VRo ow gs) (S : Ms) : f_counting_grants [.pl (Rl ow gs)] S = .ok (.own ((cnt ow gs).map G)) S := by
  have e := counts_inT_ok (OwD.T v.on) (xs := sortG gs) (fun x hx => v.gg x (mem_sortG.mp hx)) (by rw [(sortG_perm gs).length_eq]; have := v.g1; omega) S
  rw [cnt_sortG] at e
  refine run_rt ?_
  show b_counting_grants [.pl (Rl ow gs)] _ = _
  simp [b_counting_grants, owners_ok, grants_ok, e]
theorem cnt_len {ow : List Str} {gs : List Gr} : (cnt ow gs).length ≤ gs.length := by
  have := (cnt_sub ow gs).length_le
  rwa [(sortG_perm gs).length_eq] at this
def tkn (ow : List Str) (gs : List Gr) (x : Str) : List Gr := (cnt ow gs).filter fun y => decide (y.k = x)
theorem taken_ok {ow : List Str} {gs : List Gr} (v : VRo ow gs) (x : Str) (S : Ms) : f_taken [.pl (Rl ow gs), .pl (.str x)] S = .ok (.own ((tkn ow gs x).map G)) S := by
  have lc : (cnt ow gs).length ≤ cap := by have := cnt_len (ow := ow) (gs := gs); have := v.g1; show _ ≤ 1000000; omega
  have hc := comp_typed (tg := .nm 2) (t := tB' (eB eqS (eB ixS (eV 2) (eC (.int 2))) (eV 1))) (f := eV 2) (δ := [.pl (Rl ow gs), .pl (.str x), .no]) (S := S) G (fun y => decide (y.k = x)) G (cnt ow gs) fun y hy => by
    refine ⟨[.pl (Rl ow gs), .pl (.str x), .pl (G y)], by simp, ?_, fun _ => ⟨.pl (G y), by simp, rfl⟩⟩
    simp [gx2]
  refine run_rt ?_
  show b_taken [.pl (Rl ow gs), .pl (.str x), .no] _ = _
  simp [b_taken, counting_ok v, lc, hc, tkn]
theorem okP_pr {g : Gr} (h : okG g) : okP (pr g) := by
  obtain ⟨_, _, _, _, _, a, b, c, d⟩ := h
  unfold okP pr
  simp only
  omega
theorem sl3 (g : Gr) : slS (G g) (some 3) none = some (.pl (prT (pr g))) := rfl
theorem powers_in_ok {gs : List Gr} (h : ∀ g ∈ gs, okG g) (hl : gs.length < 64) (S : Ms) : f_powers_in [.pl (GL gs), .pl .non] S = .ok (.own ((mxl (gs.map pr)).map prT)) S := by
  have lc : gs.length ≤ cap := by show _ ≤ 1000000; omega
  have hc := comp_typed (tg := .nm 2) (t := tOr' (tB' (eIsN false (eV 1))) (tB' (eB leS (eB ixS (eV 2) (eC (.int 0))) (eV 1)))) (f := eSl (eV 2) (oSome (eC (.int 3))) (oNone)) (δ := [.pl (GL gs), .pl .non, .no]) (S := S) G (fun _ => true) (fun y => prT (pr y)) gs fun y hy => by
    refine ⟨[.pl (GL gs), .pl .non, .pl (G y)], by simp, by simp, fun _ => ⟨.pl (prT (pr y)), ?_, rfl⟩⟩
    simp [sl3]
  rw [List.filter_eq_self.mpr (fun _ _ => rfl)] at hc
  have e := maximal_ok (ps := gs.map pr) (fun p hp => by obtain ⟨g, hg, rfl⟩ := List.mem_map.mp hp; exact okP_pr (h g hg)) (by simpa using hl) S
  rw [List.map_map] at e
  have e' : f_maximal [.pl (.lst (gs.map fun y => prT (pr y)))] S = .ok (.own ((mxl (gs.map pr)).map prT)) S := e
  refine run_rt ?_
  show b_powers_in [.pl (GL gs), .pl .non, .no] _ = _
  simp [b_powers_in, lc, hc, e']
def pw (ow : List Str) (gs : List Gr) (x : Str) : List (Int × Int) := mxl ((tkn ow gs x).map pr)
theorem check_name_ok {x : Str} (h : okN x) (S : Ms) : f_check_name [.pl (.str x)] S = .ok (.pl .non) S := by
  refine run_nx (δ' := [.pl (.str x)]) ?_
  show b_check_name [.pl (.str x)] _ = _
  simp [b_check_name, is_name_ok h]
theorem tkn_okG {ow : List Str} {gs : List Gr} (v : VRo ow gs) (x : Str) : (∀ g ∈ tkn ow gs x, okG g) ∧ (tkn ow gs x).length ≤ gs.length :=
  ⟨fun g hg => v.gg g (cnt_mem (List.mem_filter.mp hg).1), Nat.le_trans (List.length_filter_le _ _) cnt_len⟩
end Gt
set_option Elab.async false
set_option linter.all false
set_option maxRecDepth 100000
set_option maxHeartbeats 1000000
namespace Gt
open PySem PySem.Spec PyProof.Rows L2
@[simp] theorem x_eMeth {h : Fn} {fo : Fe} {fs : List Fe} {δ : Evm} {S : Ms} : eMeth h fo fs δ S = (rd fo δ S).bind fun d S => (match d with
  | .ins c ds => if c = 0 then (fA fs δ S).bind fun ss S => if ss.length = fs.length then noX (h (.pl (.ins 0 ds) :: ss) S) else .st else .st
  | _ => .st) := rfl
@[simp] theorem x_noX {s : Sl} {S : Ms} : noX (.ok s S) = .ok s S := rfl
@[simp] theorem x_eMakeS {c : Nat} {h : Fn} {f fg : Fe} {δ : Evm} {S : Ms} : eMakeS c h f fg δ S = (rd f δ S).bind fun d S => (fA [fg] δ S).bind fun gs S => (match seqD d, gs with
  | some os, [g] => if os.length ≤ cap then mkR c h os g S else .st
  | _, _ => .st) := rfl
theorem contains_ok {ow : List Str} {gs : List Gr} (v : VRo ow gs) {x : Gr} (hx : x ∈ gs) (S : Ms) : f_Roll_contains [.pl (Rl ow gs), .pl (G x)] S = .ok (.pl (.bl true)) S := by
  refine run_rt ?_
  show b_Roll_contains [.pl (Rl ow gs), .pl (G x)] _ = _
  have hi : inS (G x) (GT (sortG gs)) = some (.pl (.bl true)) := inS_of (by
    rw [inD_GT (v.gg x hx).s fun z hz => (v.gg z (mem_sortG.mp hz)).s]; simp [mem_sortG, hx])
  simp [b_Roll_contains, grant_error_ok (v.gg x hx), Rl, hi]
theorem check_member_ok {ow : List Str} {gs : List Gr} (v : VRo ow gs) {x : Gr} (hx : x ∈ gs) (S : Ms) : f_check_member [.pl (Rl ow gs), .pl (G x)] S = .ok (.pl .non) S := by
  refine run_nx (δ' := [.pl (Rl ow gs), .pl (G x)]) ?_
  show b_check_member [.pl (Rl ow gs), .pl (G x)] _ = _
  have c := contains_ok v hx S
  unfold Rl at c
  simp [b_check_member, Rl, c]
theorem check_members_ok {ow : List Str} {gs : List Gr} (v : VRo ow gs) {xs : List Gr} (hx : ∀ x ∈ xs, x ∈ gs) (S : Ms) : f_check_members [.pl (Rl ow gs), .pl (GL xs)] S = .ok (.pl .non) S := by
  obtain ⟨δ1, e1, a, rfl⟩ := loop_pass (tg := .nm 2) (body := sExp (eFn f_check_member [] [eV 0, eV 2])) (S := S) (fun δ => ∃ a, δ = [.pl (Rl ow gs), .pl (GL xs), a]) (xs.map G) [.pl (Rl ow gs), .pl (GL xs), .no] ⟨_, rfl⟩ fun z hz δ ⟨a, e⟩ => by
    subst e
    obtain ⟨y, hy, rfl⟩ := List.mem_map.mp hz
    refine ⟨[.pl (Rl ow gs), .pl (GL xs), .pl (G y)], [.pl (Rl ow gs), .pl (GL xs), .pl (G y)], by simp, ?_, _, rfl⟩
    simp [check_member_ok v (hx y hy)]
  refine run_nx (δ' := [.pl (Rl ow gs), .pl (GL xs), a]) ?_
  show b_check_members [.pl (Rl ow gs), .pl (GL xs), .no] _ = _
  simp [b_check_members, e1]
def among (gs xs : List Gr) : List Gr := (sortG gs).filter fun y => decide (y ∈ xs)
theorem mem_among {gs xs : List Gr} {x : Gr} : x ∈ among gs xs ↔ x ∈ gs ∧ x ∈ xs := by simp [among, mem_sortG]
theorem among_sorted (gs xs : List Gr) : SG (among gs xs) := (sortG_sorted gs).sublist List.filter_sublist
theorem among_nodup {gs : List Gr} (h : gs.Nodup) (xs : List Gr) : (among gs xs).Nodup := ((sortG_perm gs).nodup_iff.mpr h).sublist List.filter_sublist
theorem among_len (gs xs : List Gr) : (among gs xs).length ≤ gs.length := by
  have := List.length_filter_le (fun y => decide (y ∈ xs)) (sortG gs)
  rw [(sortG_perm gs).length_eq] at this
  exact this
theorem among_congr {gs xs ys : List Gr} (h : ∀ x ∈ gs, x ∈ xs ↔ x ∈ ys) : among gs xs = among gs ys := by
  unfold among
  refine List.filter_congr fun x hx => ?_
  simp [h x (mem_sortG.mp hx)]
theorem sortN_idem (ow : List Str) : sortN (sortN ow) = sortN ow := List.mergeSort_of_pairwise (List.pairwise_mergeSort leN_trans leN_total ow)
theorem VRo.part {ow : List Str} {gs : List Gr} (v : VRo ow gs) (xs : List Gr) : VRo ow (among gs xs) :=
  ⟨v.o1, v.o2, v.on, v.od, Nat.le_trans (among_len gs xs) v.g1, fun g hg => v.gg g (mem_among.mp hg).1, fun g hg => v.gk g (mem_among.mp hg).1, among_nodup v.gd xs⟩
theorem VRo.sorted {ow : List Str} {gs : List Gr} (v : VRo ow gs) : VRo (sortN ow) gs := by
  have p : (sortN ow).Perm ow := List.mergeSort_perm _ _
  exact ⟨by rw [p.length_eq]; exact v.o1, by rw [p.length_eq]; exact v.o2, fun o ho => v.on o (mem_sortN.mp ho), p.nodup_iff.mpr v.od, v.g1, v.gg, fun g hg h => v.gk g hg (mem_sortN.mp h), v.gd⟩
theorem only_ok {ow : List Str} {gs xs : List Gr} (v : VRo ow gs) (hx : ∀ x ∈ xs, x ∈ gs) (S : Ms) : f_Roll_only [.pl (Rl ow gs), .pl (GL xs)] S = .ok (.pl (Rl ow (among gs xs))) S := by
  have lc : (sortG gs).length ≤ cap := by rw [(sortG_perm gs).length_eq]; have := v.g1; show _ ≤ 1000000; omega
  have hc := comp_typed (tg := .nm 3) (t := tB' (eB inS (eV 3) (eV 1))) (f := eV 3) (δ := [.pl (Rl ow gs), .pl (GL xs), .no, .no]) (S := S) G (fun y => decide (y ∈ xs)) G (sortG gs) fun y hy => by
    refine ⟨[.pl (Rl ow gs), .pl (GL xs), .no, .pl (G y)], by simp, ?_, fun _ => ⟨.pl (G y), by simp, rfl⟩⟩
    have := inS_of (inD_GL (v.gg y (mem_sortG.mp hy)).s fun z hz => (v.gg z (hx z hz)).s)
    simp [this]
  have hc' : compL (.nm 3) (tB' (eB inS (eV 3) (eV 1))) (eV 3) [.pl (Rl ow gs), .pl (GL xs), .no, .no] ((sortG gs).map G) S = .ok ((among gs xs).map G) S := hc
  have m := mk_ok (v.part xs).sorted S
  have eR : Rl (sortN ow) (among gs xs) = Rl ow (among gs xs) := by unfold Rl; rw [sortN_idem]
  rw [eR] at m
  have lo : (sortN ow).length ≤ cap := by have := v.sorted.o2; show _ ≤ 1000000; omega
  refine run_rt ?_
  show b_Roll_only [.pl (Rl ow gs), .pl (GL xs), .no, .no] _ = _
  refine seq_ok (δ1 := [.pl (Rl ow gs), .pl (GL xs), .no, .no]) (S1 := S) (by simp [check_members_ok v hx]) ?_
  refine seq_ok (δ1 := [.pl (Rl ow gs), .pl (GL xs), .pl (GL (among gs xs)), .no]) (S1 := S) ?_ ?_
  · generalize among gs xs = A at hc'
    simp only [Rl] at hc'
    simp [Rl, lc, hc']
  · have e0 : eFld 0 0 (eV 0) [.pl (Rl ow gs), .pl (GL xs), .pl (GL (among gs xs)), .no] S = .ok (.pl (NT (sortN ow))) S := by simp [Rl]
    rw [x_sRet, x_eMakeS, x_rd, e0]
    simp [seqD, lo, m]
def restL (gs : List Gr) (x : Gr) : List Gr := (sortG gs).filter fun y => !decide (y.k = x.k) || decide (x.t ≤ y.t)
theorem mem_restL {gs : List Gr} {x y : Gr} : y ∈ restL gs x ↔ y ∈ gs ∧ (y.k ≠ x.k ∨ x.t ≤ y.t) := by simp [restL, mem_sortG]
theorem restL_len (gs : List Gr) (x : Gr) : (restL gs x).length ≤ gs.length := by
  have := List.length_filter_le (fun y : Gr => !decide (y.k = x.k) || decide (x.t ≤ y.t)) (sortG gs)
  rw [(sortG_perm gs).length_eq] at this
  exact this
theorem rest_ok {ow : List Str} {gs : List Gr} (v : VRo ow gs) (x : Gr) (S : Ms) : f_rest_for [.pl (Rl ow gs), .pl (G x)] S = .ok (.own ((restL gs x).map G)) S := by
  have lc : (sortG gs).length ≤ cap := by rw [(sortG_perm gs).length_eq]; have := v.g1; show _ ≤ 1000000; omega
  have hc := comp_typed (tg := .nm 2) (t := tOr' (tB' (eB neS (eB ixS (eV 2) (eC (.int 2))) (eB ixS (eV 1) (eC (.int 2))))) (tB' (eB geS (eB ixS (eV 2) (eC (.int 0))) (eB ixS (eV 1) (eC (.int 0)))))) (f := eV 2) (δ := [.pl (Rl ow gs), .pl (G x), .no]) (S := S) G (fun y => !decide (y.k = x.k) || decide (x.t ≤ y.t)) G (sortG gs) fun y hy => by
    refine ⟨[.pl (Rl ow gs), .pl (G x), .pl (G y)], by simp, ?_, fun _ => ⟨.pl (G y), by simp, rfl⟩⟩
    by_cases c : y.k = x.k <;> simp [gx2, gx0, c]
  refine run_rt ?_
  show b_rest_for [.pl (Rl ow gs), .pl (G x), .no] _ = _
  simp [b_rest_for, grants_ok, lc, hc, restL]
def usef (ow : List Str) (gs : List Gr) (x : Gr) : Bool := decide (x ∈ cnt ow (restL gs x))
theorem rest_okG {ow : List Str} {gs : List Gr} (v : VRo ow gs) (x : Gr) : ∀ y ∈ restL gs x, okG y := fun y hy => v.gg y (mem_restL.mp hy).1
theorem is_useful_ok {ow : List Str} {gs : List Gr} (v : VRo ow gs) {x : Gr} (hx : okG x) (S : Ms) : f_is_useful [.pl (Rl ow gs), .pl (G x)] S = .ok (.pl (.bl (usef ow gs x))) S := by
  have e := counts_in_ok (OwD.T v.on) (rest_okG v x) (by have := restL_len gs x; have := v.g1; omega) S
  have hi := inS_of (inD_GL hx.s fun z (hz : z ∈ cnt ow (restL gs x)) => (rest_okG v x z (cnt_mem hz)).s)
  refine run_rt ?_
  show b_is_useful [.pl (Rl ow gs), .pl (G x)] _ = _
  simp [b_is_useful, owners_ok, rest_ok v, e, hi, usef]
def coreL (ow : List Str) (gs : List Gr) : List Gr := (sortG gs).filter fun x => usef ow gs x
theorem mem_coreL {ow : List Str} {gs : List Gr} {x : Gr} : x ∈ coreL ow gs ↔ x ∈ gs ∧ x ∈ cnt ow (restL gs x) := by simp [coreL, usef, mem_sortG]
theorem core_ok {ow : List Str} {gs : List Gr} (v : VRo ow gs) (S : Ms) : f_core [.pl (Rl ow gs)] S = .ok (.own ((coreL ow gs).map G)) S := by
  have lc : (sortG gs).length ≤ cap := by rw [(sortG_perm gs).length_eq]; have := v.g1; show _ ≤ 1000000; omega
  have hc := comp_typed (tg := .nm 1) (t := tV (eFn f_is_useful [] [eV 0, eV 1])) (f := eV 1) (δ := [.pl (Rl ow gs), .no]) (S := S) G (fun x => usef ow gs x) G (sortG gs) fun y hy => by
    refine ⟨[.pl (Rl ow gs), .pl (G y)], by simp, ?_, fun _ => ⟨.pl (G y), by simp, rfl⟩⟩
    simp [is_useful_ok v (v.gg y (mem_sortG.mp hy))]
  refine run_rt ?_
  show b_core [.pl (Rl ow gs), .no] _ = _
  simp [b_core, grants_ok, lc, hc, coreL]
end Gt
set_option Elab.async false
set_option linter.all false
set_option maxRecDepth 100000
set_option maxHeartbeats 1000000
namespace Gt
open PySem PySem.Spec PyProof.Rows L2
@[simp] theorem x_eDnew {δ : Evm} {S : Ms} : eDnew δ S = .ok (.od [.non] []) S := rfl
@[simp] theorem x_iK {i : Nat} {δ : Evm} {S : Ms} : iK i δ S = (match δ[i]? with
  | some (.oin _ [.dct (.non :: ks) _]) => .ok ks S
  | _ => .st) := rfl
@[simp] theorem x_ownR {ys : List D} {S : Ms} : ownR (.ok (.own ys) S) = .ok (.own ys) S := rfl
@[simp] theorem x_eCompD {i : Nat} {g : Tg} {t : Ft} {fe : Fe} {δ : Evm} {S : Ms} : eCompD i g t fe δ S = (match δ[i]? with
  | some (.od (.non :: ks) vs) => ownR (eComp g (iK i) t fe ((lockE δ).set i (.oin 0 [.dct (.non :: ks) vs])) S)
  | _ => .st) := rfl
@[simp] theorem x_eDk {i : Nat} {fb : Fe} {δ : Evm} {S : Ms} : eDk i fb δ S = (match δ[i]? with
  | some (.oin _ [.dct (.non :: ks) vs]) => (rd fb δ S).bind fun y S => (match keyT y with
    | some k => lift ((findT k ks vs).map .pl) S
    | none => .st)
  | some (.od (.non :: ks) vs) => (rd fb δ S).bind fun y S => (match keyT y with
    | some k => lift ((findT k ks vs).map .pl) S
    | none => .st)
  | _ => .st) := rfl
@[simp] theorem x_eGet {i : Nat} {fb : Fe} {δ : Evm} {S : Ms} : eGet i fb δ S = (match δ[i]? with
  | some (.od (.non :: ks) vs) => (rd fb δ S).bind fun y S => (match keyT y with
    | some k => .ok (.pl ((findT k ks vs).getD .non)) S
    | none => .st)
  | _ => .st) := rfl
@[simp] theorem x_sDPutT {i : Nat} {fk fv : Fe} {δ : Evm} {S : Ms} : sDPutT i fk fv δ S = (fv δ S).bind fun a S => (match toP a with
  | some d => (match δ[i]? with
    | some (.od (.non :: ks) vs) => (rd fk δ S).bind fun y S => (match keyT y with
      | some k => if ((findT k ks vs).isNone && decide (ks.length < 1000)) = true then .ok (.nx (δ.set i (.od (.non :: (ks ++ [y])) (vs ++ [d])))) S else .st
      | none => .st)
    | _ => .st)
  | none => .st) := rfl
def kG (x : Gr) : List Key := [.inl x.t, .inr x.g, .inr x.k, .inl x.l, .inl x.p]
theorem keyT_G (x : Gr) : keyT (G x) = some (kG x) := rfl
theorem kG_inj {x y : Gr} (h : kG x = kG y) : x = y := by
  cases x; cases y; simp [kG] at h; simp [h]
abbrev CP := Gr × List Gr
def cK (ps : List CP) : List D := ps.map fun q => G q.1
def cV (ps : List CP) : List D := ps.map fun q => GL q.2
theorem find_in : ∀ {ps : List CP} {q : CP}, q ∈ ps → (ps.map (·.1)).Nodup → findT (kG q.1) (cK ps) (cV ps) = some (GL q.2)
  | p :: ps, q, h, nd => by
    show (if keyT (G p.1) = some (kG q.1) then some (GL p.2) else findT (kG q.1) (cK ps) (cV ps)) = _
    rw [keyT_G]
    rcases List.mem_cons.mp h with rfl | h
    · rw [if_pos rfl]
    · have ne : p.1 ≠ q.1 := fun e => (List.nodup_cons.mp nd).1 (by show p.1 ∈ _; rw [e]; exact List.mem_map.mpr ⟨q, h, rfl⟩)
      rw [if_neg (fun e => ne (kG_inj (Option.some.inj e)))]
      exact find_in h (List.nodup_cons.mp nd).2
theorem find_out : ∀ {ps : List CP} {x : Gr}, x ∉ ps.map (·.1) → findT (kG x) (cK ps) (cV ps) = none
  | [], _, _ => rfl
  | p :: ps, x, h => by
    show (if keyT (G p.1) = some (kG x) then some (GL p.2) else findT (kG x) (cK ps) (cV ps)) = _
    rw [keyT_G]
    simp only [List.map_cons, List.mem_cons, not_or] at h
    rw [if_neg (fun e => h.1 (kG_inj (Option.some.inj e)).symm)]
    exact find_out h.2
theorem alikeAll_GL : ∀ (a b : List Gr), PySem.W.alikeAll ((a.map G).map toPy) ((b.map G).map toPy) = true
  | [], _ => by simp [PySem.W.alikeAll]
  | _ :: _, [] => by simp [PySem.W.alikeAll]
  | x :: a, y :: b => by
    have h := like_G x y
    unfold likeD at h
    simp only [List.map_cons, PySem.W.alikeAll, h, Bool.true_and]
    exact alikeAll_GL a b
theorem like_GL (a b : List Gr) : likeD (GL a) (GL b) = true := by
  unfold likeD
  rw [toPy_lst, toPy_lst, PySem.W.alike]
  exact alikeAll_GL a b
theorem argBest_le (bt : Nat → Nat → Bool) : ∀ k, argBest bt k ≤ k
  | 0 => Nat.le_refl _
  | k + 1 => by
    have := argBest_le bt k
    unfold argBest
    split <;> omega
theorem min_GL {xss : List (List Gr)} (ne : xss ≠ []) (l : xss.length ≤ 1000) (h : ∀ xs ∈ xss, ∀ x ∈ xs, okGS x) : ∃ xs ∈ xss, minS [.lst (xss.map fun xs => GL xs)] = some (.pl (GL xs)) := by
  have lp := List.length_pos_iff.mpr ne
  have ok : okMin (xss.map fun xs => GL xs) = true := by
    simp only [okMin, List.length_map, Bool.and_eq_true, decide_eq_true_eq, List.all_eq_true, List.mem_map, forall_exists_index, and_imp, forall_apply_eq_imp_iff₂]
    exact ⟨by show _ ≤ 1000000; omega, lp, fun a ha => (okd.GL (h a ha)).small (by decide), fun a ha => rfl, fun a _ b _ => like_GL a b⟩
  have lt : minIx ((xss.map fun xs => GL xs).map toPy) < xss.length := by
    unfold minIx
    have := argBest_le (fun i j => PySem.W.dataLt (((xss.map fun xs => GL xs).map toPy).getD i .none) (((xss.map fun xs => GL xs).map toPy).getD j .none)) (((xss.map fun xs => GL xs).map toPy).length - 1)
    simp only [List.length_map] at this ⊢
    omega
  refine ⟨xss[minIx ((xss.map fun xs => GL xs).map toPy)], List.getElem_mem lt, ?_⟩
  simp only [minS, ok, if_true]
  rw [List.getElem?_map, List.getElem?_eq_getElem lt]
  rfl
structure chP (ow : List Str) (R : List Gr) (x : Gr) (c : List Gr) : Prop where
  s : ∀ y ∈ c, y ∈ R
  m : x ∈ c
  st : stand ow c
  t : ∀ y ∈ c, y ≠ x → y.t < x.t
structure DI (ow : List Str) (R f : List Gr) (ps : List CP) : Prop where
  k : ps.map (·.1) = f
  c : ∀ q ∈ ps, chP ow R q.1 q.2
theorem chP.next {ow : List Str} {R : List Gr} {y x : Gr} {c : List Gr} (h : chP ow R y c) (s : supp y x = true) (hx : x ∈ R) : chP ow R x (c ++ [x]) := by
  have lt := supp_t s
  refine ⟨fun z hz => ?_, by simp, fun z hz => ?_, fun z hz n => ?_⟩
  · rcases List.mem_append.mp hz with q | q
    · exact h.s z q
    · simp only [List.mem_singleton] at q; subst q; exact hx
  · rcases List.mem_append.mp hz with q | q
    · rcases h.st z q with a | ⟨w, hw, a⟩
      · exact .inl a
      · exact .inr ⟨w, List.mem_append_left _ hw, a⟩
    · simp only [List.mem_singleton] at q; subst q
      exact .inr ⟨y, List.mem_append_left _ h.m, s⟩
  · rcases List.mem_append.mp hz with q | q
    · by_cases e : z = y
      · subst e; exact lt
      · have := h.t z q e; omega
    · simp only [List.mem_singleton] at q; exact absurd q n
theorem chP.own {ow : List Str} {R : List Gr} {x : Gr} (o : x.g ∈ ow) (hx : x ∈ R) : chP ow R x [x] :=
  ⟨fun z hz => by simp only [List.mem_singleton] at hz; subst hz; exact hx, by simp, fun z hz => by simp only [List.mem_singleton] at hz; subst hz; exact .inl o, fun z hz n => by simp only [List.mem_singleton] at hz; exact absurd hz n⟩
abbrev chB : Fs := sSeq (sOwn 5 (eCompD 3 (.nm 6) (tV (eFn f_is_support [] [eV 6, eV 4])) (eB addS (eDk 3 (eV 6)) (eLst [eV 4]))))
  (sSeq (sIf (tB' (eB inS (eB ixS (eV 4) (eC (.int 1))) (eV 0))) (sApp 5 (eLst [eV 4])) (sNx))
  (sIf (tB' (eB neS (eV 5) (eLst []))) (sDPutT 3 (eV 4) (eCall minS [eV 5])) (sNx)))
section
variable {ow : List Str} {R : List Gr} {o : D} {b2 : Sl}
abbrev chE (o : D) (R : List Gr) (b2 : Sl) (ps : List CP) (x5 : Sl) (x : Gr) : Evm := [.pl o, .pl (GL R), b2, .od (.non :: cK ps) (cV ps), .pl (G x), x5, .no]
theorem chB_ok (ho : OwD ow o) (hR : ∀ x ∈ R, okG x) (lR : R.length ≤ 100) {f : List Gr} {ps : List CP} (I : DI ow R f ps) (fR : ∀ y ∈ f, y ∈ R) (nd : f.Nodup) {x : Gr} (hx : x ∈ R) (nx : x ∉ f) (lf : f.length ≤ 100) (lc : ∀ q ∈ ps, q.2.length ≤ f.length) {b5 : Sl} (h5 : b5 = .no ∨ ∃ ys, b5 = .own ys) (S : Ms) :
    ∃ ps' ys, chB (chE o R b2 ps b5 x) S = .ok (.nx (chE o R b2 ps' (.own ys) x)) S ∧ DI ow R (if takes ow f x = true then f ++ [x] else f) ps' ∧ (∀ q ∈ ps', q.2.length ≤ (if takes ow f x = true then f ++ [x] else f).length) := by
  have okx := hR x hx
  have lps : ps.length = f.length := by have := congrArg List.length I.k; simpa using this
  have ndk : (ps.map (·.1)).Nodup := by rw [I.k]; exact nd
  have okq : ∀ q ∈ ps, okG q.1 ∧ ∀ y ∈ q.2, okG y := fun q hq => ⟨hR _ (fR _ (I.k ▸ List.mem_map.mpr ⟨q, hq, rfl⟩)), fun y hy => hR _ ((I.c q hq).s y hy)⟩
  have l1 : 1 ≤ cap := by decide
  have lpc : ps.length ≤ cap := by show _ ≤ 1000000; omega
  have lkc : (cK ps).length ≤ cap := by simp only [cK, List.length_map]; exact lpc
  have hc := comp_typed (tg := .nm 6) (t := tV (eFn f_is_support [] [eV 6, eV 4])) (f := eB addS (eDk 3 (eV 6)) (eLst [eV 4])) (δ := [.pl o, .pl (GL R), lock1 b2, .oin 0 [.dct (.non :: cK ps) (cV ps)], .pl (G x), lock1 b5, .no]) (S := S) (fun q : CP => G q.1) (fun q => supp q.1 x) (fun q => GL (q.2 ++ [x])) ps fun q hq => by
    refine ⟨[.pl o, .pl (GL R), lock1 b2, .oin 0 [.dct (.non :: cK ps) (cV ps)], .pl (G x), lock1 b5, .pl (G q.1)], by simp, by simp [is_support_ok (okq q hq).1 okx], fun _ => ⟨.own ((q.2 ++ [x]).map G), ?_, rfl⟩⟩
    have ad : addS (GL q.2) (.lst [G x]) = some (.own ((q.2 ++ [x]).map G)) := by
      rw [x_addL (by show _ ≤ 1000000; have := lc q hq; simp; omega), List.map_append]; rfl
    generalize (q.2 ++ [x]).map G = w at ad
    simp [keyT_G, find_in hq ndk, l1, ad]
  generalize hfs : (ps.filter fun q => supp q.1 x).map (fun q => q.2 ++ [x]) = F0
  have hc2 : compL (.nm 6) (tV (eFn f_is_support [] [eV 6, eV 4])) (eB addS (eDk 3 (eV 6)) (eLst [eV 4])) [.pl o, .pl (GL R), lock1 b2, .oin 0 [.dct (.non :: cK ps) (cV ps)], .pl (G x), lock1 b5, .no] (cK ps) S = .ok (F0.map fun c => GL c) S := by
    rw [← hfs, List.map_map]; exact hc
  have F0c : ∀ c ∈ F0, chP ow R x c ∧ c.length ≤ f.length + 1 := fun c hcm => by
    rw [← hfs] at hcm
    obtain ⟨q, hq, rfl⟩ := List.mem_map.mp hcm
    obtain ⟨hq1, hq2⟩ := List.mem_filter.mp hq
    exact ⟨(I.c q hq1).next hq2 hx, by simp; exact lc q hq1⟩
  have F0l : F0.length ≤ 100 := by rw [← hfs]; have := List.length_filter_le (fun q : CP => supp q.1 x) ps; simp; omega
  have F0e : F0 = [] ↔ (f.any fun y => supp y x) = false := by
    rw [← hfs, List.map_eq_nil_iff, List.filter_eq_nil_iff, List.any_eq_false, ← I.k]
    constructor
    · intro h y hy
      obtain ⟨q, hq, rfl⟩ := List.mem_map.mp hy
      exact h q hq
    · intro h q hq
      exact h q.1 (List.mem_map.mpr ⟨q, hq, rfl⟩)
  have hlock : (lockE (chE o R b2 ps b5 x)).set 3 (.oin 0 [.dct (.non :: cK ps) (cV ps)]) = [.pl o, .pl (GL R), lock1 b2, .oin 0 [.dct (.non :: cK ps) (cV ps)], .pl (G x), lock1 b5, .no] := rfl
  have s1 : sOwn 5 (eCompD 3 (.nm 6) (tV (eFn f_is_support [] [eV 6, eV 4])) (eB addS (eDk 3 (eV 6)) (eLst [eV 4]))) (chE o R b2 ps b5 x) S = .ok (.nx (chE o R b2 ps (.own (F0.map fun c => GL c)) x)) S := by
    have e1 : eCompD 3 (.nm 6) (tV (eFn f_is_support [] [eV 6, eV 4])) (eB addS (eDk 3 (eV 6)) (eLst [eV 4])) (chE o R b2 ps b5 x) S = .ok (.own (F0.map fun c => GL c)) S := by
      rw [x_eCompD]
      show ownR (eComp _ _ _ _ ((lockE (chE o R b2 ps b5 x)).set 3 (.oin 0 [.dct (.non :: cK ps) (cV ps)])) S) = _
      rw [hlock, x_eComp, x_iK]
      show ownR ((Rs.ok (cK ps) S).bind _) = _
      rw [bind_ok, if_pos lkc]
      simp only [x_slots, x_wipe1, x_wipe0, List.set_cons_succ, List.set_cons_zero]
      rw [hc2]; rfl
    rw [x_sOwn, e1]; simp [chE]
  have gx := inS_of (ho x.g okx.g.s)
  generalize hF1 : (if x.g ∈ ow then F0 ++ [[x]] else F0) = F1
  have s2 : (sIf (tB' (eB inS (eB ixS (eV 4) (eC (.int 1))) (eV 0))) (sApp 5 (eLst [eV 4])) (sNx)) (chE o R b2 ps (.own (F0.map fun c => GL c)) x) S = .ok (.nx (chE o R b2 ps (.own (F1.map fun c => GL c)) x)) S := by
    have lca : F0.length < cap := by show _ < 1000000; omega
    by_cases c : x.g ∈ ow
    · rw [if_pos c] at hF1
      subst hF1
      simp [chE, gx1, gx, c, l1, lca]
    · rw [if_neg c] at hF1
      subst hF1
      simp [chE, gx1, gx, c]
  have F1c : ∀ c ∈ F1, chP ow R x c ∧ c.length ≤ f.length + 1 := fun c hcm => by
    rw [← hF1] at hcm
    split at hcm
    · rename_i oo
      rcases List.mem_append.mp hcm with q | q
      · exact F0c c q
      · simp only [List.mem_singleton] at q; subst q; exact ⟨chP.own oo hx, by simp⟩
    · exact F0c c hcm
  have F1l : F1.length ≤ 101 := by
    rw [← hF1]
    split
    · simp; omega
    · omega
  have F1e : F1 = [] ↔ takes ow f x = false := by
    rw [← hF1]
    unfold takes
    by_cases c : x.g ∈ ow
    · rw [if_pos c]; simp [c]
    · rw [if_neg c]; simp only [c, decide_false, Bool.false_or]; exact F0e
  have F1s : ∀ c ∈ F1, ∀ y ∈ c, okGS y := fun c hcm y hy => (hR y ((F1c c hcm).1.s y hy)).s
  have okF : okp (.lst (F1.map fun c => GL c)) = true := (okd.lst (n := 2) fun d hd => by obtain ⟨c, hcm, rfl⟩ := List.mem_map.mp hd; exact okd.GL (F1s c hcm)).p (by decide)
  have okE : okp (.lst []) = true := (okd.lst (n := 0) (xs := []) fun d hd => by cases hd).p (by decide)
  have nF : neS (.lst (F1.map fun c => GL c)) (.lst []) = some (.pl (.bl (!decide (F1 = [])))) := by
    have ev : PyData.eqv (toPy (.lst (F1.map fun c => GL c))) (toPy (.lst [])) = decide (F1 = []) := by
      rw [toPy_lst, toPy_lst, PyData.eqv]
      cases F1 with
      | nil => simp [PyData.eqvAll]
      | cons a r => simp [PyData.eqvAll]
    simp only [neS, eqD, okF, okE, ev]; rfl
  by_cases c : F1 = []
  · have tk := F1e.mp c
    have e3 : (if takes ow f x = true then f ++ [x] else f) = f := if_neg (by rw [tk]; decide)
    rw [e3]
    refine ⟨ps, F1.map fun c => GL c, seq_ok s1 (seq_ok s2 ?_), I, lc⟩
    have nF2 : neS (.lst (F1.map fun c => GL c)) (.lst []) = some (.pl (.bl false)) := by rw [nF]; simp [c]
    generalize (F1.map fun c => GL c) = w at nF2
    simp [chE, nF2]
  · have tk : takes ow f x = true := by
      cases e : takes ow f x with
      | true => rfl
      | false => exact absurd (F1e.mpr e) c
    rw [if_pos tk]
    obtain ⟨mc, hmc, em⟩ := min_GL c (by omega) F1s
    have nk : x ∉ ps.map (·.1) := by rw [I.k]; exact nx
    have fo := find_out nk
    have l1000 : (cK ps).length < 1000 := by simp only [cK, List.length_map]; omega
    refine ⟨ps ++ [(x, mc)], F1.map fun c => GL c, seq_ok s1 (seq_ok s2 ?_), ⟨by rw [List.map_append, I.k]; rfl, fun q hq => ?_⟩, fun q hq => ?_⟩
    · have ek : cK (ps ++ [(x, mc)]) = cK ps ++ [G x] := by simp [cK]
      have ev : cV (ps ++ [(x, mc)]) = cV ps ++ [GL mc] := by simp [cV]
      have nF2 : neS (.lst (F1.map fun c => GL c)) (.lst []) = some (.pl (.bl true)) := by rw [nF]; simp [c]
      show _ = Rs.ok (Fl.nx [.pl o, .pl (GL R), b2, .od (.non :: cK (ps ++ [(x, mc)])) (cV (ps ++ [(x, mc)])), .pl (G x), .own (F1.map fun c => GL c), .no]) S
      rw [ek, ev]
      unfold chE
      generalize cK ps = ck at fo l1000
      generalize cV ps = cv at fo
      generalize (F1.map fun c => GL c) = w at nF2 em
      simp [nF2, em, keyT_G, fo, l1000]
    · rcases List.mem_append.mp hq with q1 | q1
      · exact I.c q q1
      · simp only [List.mem_singleton] at q1; subst q1; exact (F1c mc hmc).1
    · rcases List.mem_append.mp hq with q1 | q1
      · have := lc q q1; rw [List.length_append]; simp; omega
      · simp only [List.mem_singleton] at q1; subst q1; rw [List.length_append]; exact (F1c mc hmc).2
theorem ch_loop (ho : OwD ow o) (hR : ∀ x ∈ R, okG x) (lR : R.length ≤ 100) {S : Ms} : ∀ (r f : List Gr) (ps : List CP) (x4 b5 : Sl), DI ow R f ps → (∀ y ∈ f, y ∈ R) → f.Nodup → (∀ x ∈ r, x ∈ R) → r.Nodup → (∀ x ∈ r, x ∉ f) → f.length + r.length ≤ 100 → (∀ q ∈ ps, q.2.length ≤ f.length) → (b5 = .no ∨ ∃ ys, b5 = .own ys) →
    ∃ ps' y4 y5, loop (.nm 4) chB (r.map G) [.pl o, .pl (GL R), b2, .od (.non :: cK ps) (cV ps), x4, b5, .no] S = .ok (.nx [.pl o, .pl (GL R), b2, .od (.non :: cK ps') (cV ps'), y4, y5, .no]) S ∧ DI ow R (cntF ow f r) ps' ∧ ∀ q ∈ ps', q.2.length ≤ (cntF ow f r).length := by
  intro r
  induction r with
  | nil => exact fun f ps x4 b5 I _ _ _ _ _ _ lc _ => ⟨ps, x4, b5, rfl, I, lc⟩
  | cons x r ih =>
    intro f ps x4 b5 I fR nd hr ndr nf hl lc h5
    simp only [List.length_cons] at hl
    obtain ⟨ps1, ys, e, I1, lc1⟩ := chB_ok (b2 := b2) ho hR lR I fR nd (hr x (by simp)) (nf x (by simp)) (by omega) lc h5 S
    have nd2 := List.nodup_cons.mp ndr
    obtain ⟨ps', y4, y5, e2, I2, L2⟩ := ih (if takes ow f x = true then f ++ [x] else f) ps1 (.pl (G x)) (.own ys) I1 (fun y hy => by
      split at hy
      · rcases List.mem_append.mp hy with q | q
        · exact fR y q
        · simp only [List.mem_singleton] at q; subst q; exact hr y (by simp)
      · exact fR y hy) (by
      split
      · exact List.nodup_append.mpr ⟨nd, by simp, fun u hu z hz => by simp only [List.mem_singleton] at hz; subst hz; intro q; subst q; exact nf u (by simp) hu⟩
      · exact nd) (fun y hy => hr y (by simp [hy])) nd2.2 (fun y hy m => by
      split at m
      · rcases List.mem_append.mp m with q | q
        · exact nf y (by simp [hy]) q
        · simp only [List.mem_singleton] at q; subst q; exact nd2.1 hy
      · exact nf y (by simp [hy]) m) (by
      split
      · simp; omega
      · omega) lc1 (.inr ⟨ys, rfl⟩)
    refine ⟨ps', y4, y5, ?_, I2, L2⟩
    rw [List.map_cons, loop]
    simp only [x_setN, List.length_cons, List.length_nil]
    show (chB (chE o R b2 ps b5 x) S).bind _ = _
    rw [e]
    exact e2
theorem chain_in_ok (ho : OwD ow o) (hR : ∀ x ∈ R, okG x) (lR : R.length ≤ 100) (nd : R.Nodup) (x : Gr) (S : Ms) : ∃ r, f_chain_in [.pl o, .pl (GL R), .pl (G x)] S = .ok (.pl r) S ∧ (x ∉ cnt ow R → r = .non) ∧ (x ∈ cnt ow R → ∃ c, r = GL c ∧ chP ow R x c ∧ c.length ≤ R.length) := by
  have s2 : sortS [GL R] = some (.own ((sortG R).map G)) := sortS_GL (fun g hg => (hR g hg).s) (by show _ ≤ 1000000; omega)
  obtain ⟨ps, y4, y5, e, I, L⟩ := ch_loop (b2 := .pl (G x)) ho hR lR (S := S) (sortG R) [] [] .no .no ⟨rfl, fun q hq => by cases hq⟩ (fun y hy => by cases hy) List.nodup_nil (fun y hy => mem_sortG.mp hy) ((sortG_perm R).nodup_iff.mpr nd) (fun y hy m => by cases m) (by rw [(sortG_perm R).length_eq]; simpa using lR) (fun q hq => by cases hq) (.inl rfl)
  have ndp : (ps.map (·.1)).Nodup := by rw [I.k]; exact cnt_nodup nd
  refine ⟨(findT (kG x) (cK ps) (cV ps)).getD .non, run_rt ?_, fun n => ?_, fun m => ?_⟩
  · show b_chain_in [.pl o, .pl (GL R), .pl (G x), .no, .no, .no, .no] _ = _
    refine seq_ok (δ1 := [.pl o, .pl (GL R), .pl (G x), .od [.non] [], .no, .no, .no]) (S1 := S) (by simp) ?_
    refine seq_ok (δ1 := [.pl o, .pl (GL R), .pl (G x), .od (.non :: cK ps) (cV ps), y4, y5, .no]) (S1 := S) ?_ ?_
    · rw [x_sFor]
      rw [show (iE (eCall sortS [eV 1])) [.pl o, .pl (GL R), .pl (G x), .od [.non] [], .no, .no, .no] S = .ok ((sortG R).map G) S from by simp [s2]]
      rw [bind_ok]
      exact e
    · generalize cK ps = ck
      generalize cV ps = cv
      simp [keyT_G]
  · have : x ∉ ps.map (·.1) := by rw [I.k]; exact n
    rw [find_out this]; rfl
  · have : x ∈ ps.map (·.1) := by rw [I.k]; exact m
    obtain ⟨q, hq, rfl⟩ := List.mem_map.mp this
    rw [find_in hq ndp]
    exact ⟨q.2, rfl, I.c q hq, Nat.le_trans (L q hq) (cnt_len (ow := ow) (gs := R))⟩
end
end Gt
set_option Elab.async false
set_option linter.all false
set_option maxRecDepth 100000
set_option maxHeartbeats 1000000
namespace Gt
open PySem PySem.Spec PyProof.Rows L2
@[simp] theorem x_eSc1 {g : Tg} {fi : Fi} {t : Ft} {fe : Fe} {δ : Evm} {S : Ms} : eSc1 g fi t fe δ S = (fi δ S).bind fun xs S => if xs.length ≤ cap then (compL g t fe (wipeD δ (slotsT g)) xs S).bind fun ys S => lift (sortSetS [.lst ys]) S else .st := rfl
def unI : Key → Int
  | .inl i => i
  | .inr _ => 0
def kI (i : Int) : Key := Sum.inl i
def SIn (xs : List Int) : List Int := (sortK (xs.map kI)).map unI
theorem SIn_keys (xs : List Int) : sortK (xs.map kI) = (SIn xs).map kI := by
  unfold SIn
  rw [List.map_map]
  refine ((List.map_congr_left fun k hk => ?_).trans (List.map_id _)).symm
  obtain ⟨x, _, rfl⟩ := List.mem_map.mp (mem_sortK.mp hk)
  rfl
theorem mem_SIn {xs : List Int} {x : Int} : x ∈ SIn xs ↔ x ∈ xs := by
  constructor
  · intro h
    obtain ⟨k, hk, rfl⟩ := List.mem_map.mp h
    obtain ⟨y, hy, rfl⟩ := List.mem_map.mp (mem_sortK.mp hk)
    exact hy
  · intro h
    exact List.mem_map.mpr ⟨kI x, mem_sortK.mpr (List.mem_map.mpr ⟨x, h, rfl⟩), rfl⟩
theorem SIn_sorted (xs : List Int) : (SIn xs).Pairwise fun a b => a < b := by
  have h1 := nodup_sortK (ks := xs.map kI)
  have h2 := sortK_sorted (xs.map kI)
  rw [SIn_keys] at h1 h2
  have h3 := List.pairwise_map.mp h1
  have h4 := List.pairwise_map.mp h2
  refine (h3.and h4).imp fun {a b} ⟨p, q⟩ => ?_
  have q' : a ≤ b := by simpa [kLe, kI] using q
  have : a ≠ b := fun e => p (by rw [e])
  omega
theorem keysD_ints : ∀ xs : List Int, keysD (xs.map D.int) = some (xs.map kI)
  | [] => rfl
  | x :: xs => by simp [keysD, keysD_ints xs, kI]
theorem sset_I {xs : List Int} (h : xs.length ≤ 4000) : sortSetS [.lst (xs.map D.int)] = some (.own ((SIn xs).map D.int)) := by
  have hom : homK (xs.map kI) = true := by unfold homK; simp [isIK, List.all_map, kI]
  have e : (sortK (xs.map kI)).map keyD = (SIn xs).map D.int := by rw [SIn_keys, List.map_map]; rfl
  simp only [sortSetS, seqD, keysD_ints, hom, List.length_map, h, and_self, if_true, e]
theorem SIn_len (xs : List Int) : (SIn xs).length ≤ xs.length := by
  unfold SIn
  rw [List.length_map, (sortK_perm _).length_eq]
  have := ddK_len (xs.map kI)
  rwa [List.length_map] at this
def ptm (gs : List Gr) (t : Int) : List (Int × Int) := mxl ((gs.filter fun y => decide (y.t ≤ t)).map pr)
theorem powers_inT_ok {gs : List Gr} (h : ∀ g ∈ gs, okG g) (hl : gs.length < 64) (t : Int) (S : Ms) : f_powers_in [.pl (GL gs), .pl (.int t)] S = .ok (.own ((ptm gs t).map prT)) S := by
  have lc : gs.length ≤ cap := by show _ ≤ 1000000; omega
  have hc := comp_typed (tg := .nm 2) (t := tOr' (tB' (eIsN false (eV 1))) (tB' (eB leS (eB ixS (eV 2) (eC (.int 0))) (eV 1)))) (f := eSl (eV 2) (oSome (eC (.int 3))) (oNone)) (δ := [.pl (GL gs), .pl (.int t), .no]) (S := S) G (fun y => decide (y.t ≤ t)) (fun y => prT (pr y)) gs fun y hy => by
    refine ⟨[.pl (GL gs), .pl (.int t), .pl (G y)], by simp, by simp [gx0], fun _ => ⟨.pl (prT (pr y)), ?_, rfl⟩⟩
    simp [sl3]
  have e := maximal_ok (ps := (gs.filter fun y => decide (y.t ≤ t)).map pr) (fun p hp => by obtain ⟨g, hg, rfl⟩ := List.mem_map.mp hp; exact okP_pr (h g (List.mem_filter.mp hg).1)) (by
    have := List.length_filter_le (fun y : Gr => decide (y.t ≤ t)) gs
    rw [List.length_map]; omega) S
  rw [List.map_map] at e
  have e' : f_maximal [.pl (.lst ((gs.filter fun y => decide (y.t ≤ t)).map fun y => prT (pr y)))] S = .ok (.own ((ptm gs t).map prT)) S := e
  refine run_rt ?_
  show b_powers_in [.pl (GL gs), .pl (.int t), .no] _ = _
  generalize (gs.filter fun y => decide (y.t ≤ t)).map (fun y => prT (pr y)) = w at hc e'
  simp [b_powers_in, lc, hc, e']
abbrev PL (ps : List (Int × Int)) : D := .lst (ps.map prT)
abbrev Stp' := Int × List (Int × Int)
def sD (q : Stp') : D := .tup [.int q.1, PL q.2]
def isNew' (P : Int → List (Int × Int)) (acc : List Stp') (t : Int) : Bool := match acc.getLast? with
  | none => true
  | some q => !decide (P t = q.2)
def stepsF (P : Int → List (Int × Int)) : List Stp' → List Int → List Stp'
  | acc, [] => acc
  | acc, t :: r => stepsF P (if isNew' P acc t = true then acc ++ [(t, P t)] else acc) r
theorem okd_pT (p : Int × Int) : okd 1 (prT p) := okd.tup (n := 0) fun x hx => by
  simp only [List.mem_cons, List.not_mem_nil, or_false] at hx
  rcases hx with rfl | rfl <;> exact okd.int _
theorem okd.up {n m : Nat} {d : D} (h : okd n d) (l : n ≤ m) : okd m d := ⟨h.1, h.2.1, Nat.le_trans h.2.2 l⟩
theorem okd_PL (ps : List (Int × Int)) : okd 2 (PL ps) := okd.lst fun y hy => by obtain ⟨x, _, rfl⟩ := List.mem_map.mp hy; exact okd_pT x
theorem okd_sD (q : Stp') : okd 3 (sD q) := okd.tup (n := 2) fun x hx => by
  simp only [List.mem_cons, List.not_mem_nil, or_false] at hx
  rcases hx with rfl | rfl
  · exact (okd.int _).up (by decide)
  · exact okd_PL _
theorem okd_SL (qs : List Stp') : okd 4 (.lst (qs.map sD)) := okd.lst fun y hy => by obtain ⟨x, _, rfl⟩ := List.mem_map.mp hy; exact okd_sD x
theorem eqv_pT (a b : Int × Int) : PyData.eqv (toPy (prT a)) (toPy (prT b)) = decide (a = b) := by
  simp only [prT, toPy_tup, List.map_cons, List.map_nil, toPy_int, PyData.eqv, PyData.eqvAll, Bool.and_true, Prod.ext_iff]
  rw [Bool.decide_and]; rfl
theorem eqv_PL (a b : List (Int × Int)) : PyData.eqv (toPy (PL a)) (toPy (PL b)) = decide (a = b) := by
  rw [toPy_lst, toPy_lst, PyData.eqv, List.map_map, List.map_map]; exact eqvAll_map _ eqv_pT a b
theorem eqv_sD (a b : Stp') : PyData.eqv (toPy (sD a)) (toPy (sD b)) = decide (a = b) := by
  have h := eqv_PL a.2 b.2
  simp only [sD, toPy_tup, List.map_cons, List.map_nil, toPy_int, PyData.eqv, PyData.eqvAll, Bool.and_true] at h ⊢
  rw [h]
  simp only [Prod.ext_iff, Bool.decide_and]
  rfl
theorem eqv_SL (a b : List Stp') : PyData.eqv (toPy (.lst (a.map sD))) (toPy (.lst (b.map sD))) = decide (a = b) := by
  rw [toPy_lst, toPy_lst, PyData.eqv, List.map_map, List.map_map]; exact eqvAll_map _ eqv_sD a b
theorem neS_PL (a b : List (Int × Int)) : neS (PL a) (PL b) = some (.pl (.bl (!decide (a = b)))) := by simp only [neS, eqD, (okd_PL a).p (by decide), (okd_PL b).p (by decide), eqv_PL]; rfl
theorem neS_SL (a b : List Stp') : neS (.lst (a.map sD)) (.lst (b.map sD)) = some (.pl (.bl (!decide (a = b)))) := by simp only [neS, eqD, (okd_SL a).p (by decide), (okd_SL b).p (by decide), eqv_SL]; rfl
theorem eqS_SLn (a : List Stp') : eqS (.lst (a.map sD)) (.lst []) = some (.pl (.bl (decide (a = [])))) := by
  have := eqv_SL a []
  simp only [List.map_nil] at this
  have o2 := (okd_SL []).p (by decide)
  simp only [List.map_nil] at o2
  simp only [eqS, eqD, (okd_SL a).p (by decide), o2, this]; rfl
theorem atI_last {xs : List D} (h : xs ≠ []) : atI xs (-1) = some (xs.getLast h) := by
  have hl := List.length_pos_iff.mpr h
  have e : ixN xs.length (-1) = some (xs.length - 1) := by
    unfold ixN
    rw [if_neg (by decide), if_pos (by omega)]
    congr 1; omega
  unfold atI
  rw [e]
  show xs[xs.length - 1]? = _
  rw [List.getLast_eq_getElem, List.getElem?_eq_getElem]
abbrev stB : Fs := sSeq (sAsg 5 (eFn f_powers_in [] [eV 2, eV 4]))
  (sIf (tOr' (tB' (eB eqS (eV 3) (eLst []))) (tB' (eB neS (eV 5) (eB ixS (eB ixS (eV 3) (eNeg (eC (.int 1)))) (eC (.int 1)))))) (sApp 3 (eTup [eV 4, eV 5])) (sNx))
theorem steps_loop {A : List Gr} (hA : ∀ g ∈ A, okG g) (lA : A.length < 64) {a b : Sl} {S : Ms} : ∀ (T : List Int) (acc : List Stp') (x4 x5 : Sl), acc.length + T.length ≤ 1000 →
    ∃ y4 y5, loop (.nm 4) stB (T.map D.int) [a, b, .pl (GL A), .own (acc.map sD), x4, x5, .no] S = .ok (.nx [a, b, .pl (GL A), .own ((stepsF (ptm A) acc T).map sD), y4, y5, .no]) S := by
  intro T
  induction T with
  | nil => exact fun acc x4 x5 _ => ⟨x4, x5, rfl⟩
  | cons t T ih =>
    intro acc x4 x5 hl
    simp only [List.length_cons] at hl
    have hp := powers_inT_ok hA lA t S
    have l2 : 2 ≤ cap := by decide
    have lc : acc.length < cap := by show _ < 1000000; omega
    have hG : D.tup [.int t, PL (ptm A t)] = sD (t, ptm A t) := rfl
    have body : stB [a, b, .pl (GL A), .own (acc.map sD), .pl (.int t), x5, .no] S = .ok (.nx [a, b, .pl (GL A), .own ((if isNew' (ptm A) acc t = true then acc ++ [(t, ptm A t)] else acc).map sD), .pl (.int t), .pl (PL (ptm A t)), .no]) S := by
      refine seq_ok (δ1 := [a, b, .pl (GL A), .own (acc.map sD), .pl (.int t), .pl (PL (ptm A t)), .no]) (S1 := S) (by simp [hp]) ?_
      have e0 := eqS_SLn acc
      by_cases c : acc = []
      · subst c
        simp only [List.map_nil] at e0
        simp [e0, l2, isNew', hG]
      · have hne : acc.map sD ≠ [] := by simpa using c
        have hix : ixS (.lst (acc.map sD)) (.int (-1)) = some (.pl (sD (acc.getLast c))) := by
          show (atI (acc.map sD) (-1)).map Sl.pl = _
          rw [atI_last hne, List.getLast_map]; rfl
        have hix2 : ixS (sD (acc.getLast c)) (.int 1) = some (.pl (PL (acc.getLast c).2)) := rfl
        have hn := neS_PL (ptm A t) (acc.getLast c).2
        have hnew : isNew' (ptm A) acc t = !decide (ptm A t = (acc.getLast c).2) := by unfold isNew'; rw [List.getLast?_eq_some_getLast c]
        rw [hnew]
        by_cases d : ptm A t = (acc.getLast c).2
        · have hn2 : neS (PL (ptm A t)) (PL (acc.getLast c).2) = some (.pl (.bl false)) := by rw [hn]; simp [d]
          generalize PL (ptm A t) = w1 at hn2
          simp [e0, c, hix, hix2, hn2, d]
        · have hn2 : neS (PL (ptm A t)) (PL (acc.getLast c).2) = some (.pl (.bl true)) := by rw [hn]; simp [d]
          simp [e0, c, hix, hix2, hn2, d, l2, lc, hG]
    obtain ⟨y4, y5, e⟩ := ih (if isNew' (ptm A) acc t = true then acc ++ [(t, ptm A t)] else acc) (.pl (.int t)) (.pl (PL (ptm A t))) (by
      split
      · simp; omega
      · omega)
    refine ⟨y4, y5, ?_⟩
    rw [List.map_cons, loop]
    simp only [x_setN, List.length_cons, List.length_nil]
    show (stB [a, b, .pl (GL A), .own (acc.map sD), .pl (.int t), x5, .no] S).bind _ = _
    rw [body]
    exact e
def stepsL (ow : List Str) (gs : List Gr) (x : Str) : List Stp' := stepsF (ptm (tkn ow gs x)) [] (SIn ((tkn ow gs x).map (·.t)))
theorem steps_of_ok {ow : List Str} {gs : List Gr} (v : VRo ow gs) {x : Str} (hx : okN x) (S : Ms) : f_steps_of [.pl (Rl ow gs), .pl (.str x)] S = .ok (.own ((stepsL ow gs x).map sD)) S := by
  obtain ⟨k1, k2⟩ := tkn_okG v x
  have lg := v.g1
  generalize hA : tkn ow gs x = A at *
  have lA : A.length ≤ cap := by show _ ≤ 1000000; omega
  have hs := sset_I (xs := A.map (·.t)) (by simp; omega)
  have hl := SIn_len (A.map (·.t))
  rw [List.length_map] at hl
  obtain ⟨y4, y5, e⟩ := steps_loop k1 (by omega) (a := .pl (Rl ow gs)) (b := .pl (.str x)) (S := S) (SIn (A.map (·.t))) [] .no .no (by simp; omega)
  have hc := comp_typed (tg := .nm 6) (t := tYes') (f := eB ixS (eV 6) (eC (.int 0))) (δ := [.pl (Rl ow gs), .pl (.str x), .pl (GL A), .own [], .no, .no, .no]) (S := S) G (fun _ => true) (fun y => D.int y.t) A fun y hy => by
    refine ⟨[.pl (Rl ow gs), .pl (.str x), .pl (GL A), .own [], .no, .no, .pl (G y)], by simp, rfl, fun _ => ⟨.pl (.int y.t), by simp [gx0], rfl⟩⟩
  rw [List.filter_eq_self.mpr (fun _ _ => rfl)] at hc
  have et : A.map (fun y => D.int y.t) = (A.map (·.t)).map D.int := by rw [List.map_map]; rfl
  rw [et] at hc
  have ht := taken_ok v x S
  rw [hA] at ht
  refine run_rt ?_
  show b_steps_of [.pl (Rl ow gs), .pl (.str x), .no, .no, .no, .no, .no] _ = _
  refine seq_ok (δ1 := [.pl (Rl ow gs), .pl (.str x), .no, .no, .no, .no, .no]) (S1 := S) (by simp [check_name_ok hx]) ?_
  refine seq_ok (δ1 := [.pl (Rl ow gs), .pl (.str x), .pl (GL A), .no, .no, .no, .no]) (S1 := S) (by simp [ht]) ?_
  refine seq_ok (δ1 := [.pl (Rl ow gs), .pl (.str x), .pl (GL A), .own [], .no, .no, .no]) (S1 := S) (by simp) ?_
  refine seq_ok (δ1 := [.pl (Rl ow gs), .pl (.str x), .pl (GL A), .own ((stepsL ow gs x).map sD), y4, y5, .no]) (S1 := S) ?_ (by simp)
  rw [x_sFor]
  rw [show (iE (eSc1 (.nm 6) (iVc 2) (tYes') (eB ixS (eV 6) (eC (.int 0))))) [.pl (Rl ow gs), .pl (.str x), .pl (GL A), .own [], .no, .no, .no] S = .ok ((SIn (A.map (·.t))).map D.int) S from by
    generalize (A.map (·.t)).map D.int = w at hc hs
    simp [lA, hc, hs]]
  rw [bind_ok]
  unfold stepsL
  rw [hA]
  exact e
end Gt
set_option Elab.async false
set_option linter.all false
set_option maxRecDepth 100000
set_option maxHeartbeats 1000000
namespace Gt
open PySem PySem.Spec PyProof.Rows L2
def lv (acc : List Stp') : List (Int × Int) := match acc.getLast? with
  | none => []
  | some q => q.2
theorem step_skip {P : Int → List (Int × Int)} {acc : List Stp'} {t : Int} (h : P t = lv acc) (n : P t ≠ []) : isNew' P acc t = false := by
  unfold isNew' lv at *
  cases e : acc.getLast? with
  | none => rw [e] at h; exact absurd h n
  | some q => rw [e] at h; simp only at h ⊢; simp [h]
theorem step_lv {P : Int → List (Int × Int)} {acc : List Stp'} {t : Int} : lv (if isNew' P acc t = true then acc ++ [(t, P t)] else acc) = P t := by
  split
  · unfold lv; simp
  · rename_i h
    unfold isNew' at h
    unfold lv
    cases e : acc.getLast? with
    | none => rw [e] at h; simp at h
    | some q => rw [e] at h; simp only at h ⊢; simpa using (by simpa using h : P t = q.2).symm
theorem ptm_congr {A : List Gr} {s t : Int} (h : ∀ a ∈ A, a.t ≤ s ↔ a.t ≤ t) : ptm A s = ptm A t := by
  have e : (A.filter fun y => decide (y.t ≤ s)) = A.filter fun y => decide (y.t ≤ t) := List.filter_congr fun a ha => by simp [h a ha]
  unfold ptm
  rw [e]
theorem steps_red {A : List Gr} {P : Int → List (Int × Int)} (hP : ∀ t, P t = ptm A t) : ∀ (rest pre : List Int) (acc : List Stp'), (pre ++ rest).Pairwise (fun a b => a < b) → (∀ a ∈ A, a.t ∈ pre ++ rest) → (∀ t ∈ rest, P t ≠ []) → (∀ t, (∀ s ∈ pre, s ≤ t) → (∀ s ∈ rest, t < s) → P t = lv acc) →
    stepsF P acc rest = stepsF P acc (rest.filter fun t => decide (t ∈ A.map (·.t)))
  | [], pre, acc, _, _, _, _ => rfl
  | t0 :: r, pre, acc, hs, hA, hn, K => by
    have hs2 := List.pairwise_append.mp hs
    have h1 : ∀ s ∈ pre, s < t0 := fun s m => hs2.2.2 s m t0 (by simp)
    have h2 : ∀ s ∈ r, t0 < s := (List.pairwise_cons.mp hs2.2.1).1
    have sA : (pre ++ [t0] ++ r).Pairwise (fun a b => a < b) := by simpa using hs
    have memA : ∀ a ∈ A, a.t ∈ pre ++ [t0] ++ r := fun a m => by simpa using hA a m
    have later : ∀ t, (∀ s ∈ pre ++ [t0], s ≤ t) → (∀ s ∈ r, t < s) → ∀ a ∈ A, a.t ≤ t ↔ a.t ≤ t0 := fun t k1 k2 a ha => by
      have b0 := k1 t0 (by simp)
      constructor
      · intro q
        rcases List.mem_append.mp (memA a ha) with m | m
        · rcases List.mem_append.mp m with m | m
          · have := h1 _ m; omega
          · simp only [List.mem_singleton] at m; omega
        · have := k2 _ m; omega
      · intro q; omega
    show stepsF P (if isNew' P acc t0 = true then acc ++ [(t0, P t0)] else acc) r = _
    by_cases c : t0 ∈ A.map (·.t)
    · have ef : (t0 :: r).filter (fun t => decide (t ∈ A.map (·.t))) = t0 :: r.filter (fun t => decide (t ∈ A.map (·.t))) := List.filter_cons_of_pos (by simpa using c)
      rw [ef]
      show _ = stepsF P (if isNew' P acc t0 = true then acc ++ [(t0, P t0)] else acc) _
      refine steps_red hP r (pre ++ [t0]) _ sA memA (fun t m => hn t (by simp [m])) fun t k1 k2 => ?_
      rw [step_lv, hP, hP]
      exact ptm_congr (later t k1 k2)
    · have ef : (t0 :: r).filter (fun t => decide (t ∈ A.map (·.t))) = r.filter (fun t => decide (t ∈ A.map (·.t))) := List.filter_cons_of_neg (by simpa using c)
      rw [ef]
      have before : ptm A t0 = ptm A (t0 - 1) := ptm_congr fun a ha => by
        have : a.t ≠ t0 := fun e => c (List.mem_map.mpr ⟨a, ha, e⟩)
        omega
      have e0 : P t0 = lv acc := by
        rw [hP, before, ← hP]
        refine K (t0 - 1) (fun s m => by have := h1 s m; omega) fun s m => ?_
        rcases List.mem_cons.mp m with rfl | m
        · omega
        · have := h2 s m; omega
      rw [if_neg (by rw [step_skip e0 (hn t0 (by simp))]; decide)]
      refine steps_red hP r (pre ++ [t0]) acc sA memA (fun t m => hn t (by simp [m])) fun t k1 k2 => ?_
      rw [← e0, hP, hP]
      exact ptm_congr (later t k1 k2)
theorem ptm_ne {A : List Gr} (h : ∀ g ∈ A, okG g) {a : Gr} (ha : a ∈ A) {t : Int} (l : a.t ≤ t) : ptm A t ≠ [] := by
  intro z
  obtain ⟨m, hm, _⟩ := mxl_above (ps := (A.filter fun y => decide (y.t ≤ t)).map pr) (fun p hp => by obtain ⟨g, hg, rfl⟩ := List.mem_map.mp hp; exact okP_pr (h g (List.mem_filter.mp hg).1)) _ (pr a) (List.mem_map.mpr ⟨a, List.mem_filter.mpr ⟨ha, by simpa using l⟩, rfl⟩) (Nat.le_refl _)
  have : m ∈ ptm A t := hm
  rw [z] at this
  cases this
theorem sorted_same : ∀ {xs ys : List Int}, xs.Pairwise (fun a b => a < b) → ys.Pairwise (fun a b => a < b) → (∀ x, x ∈ xs ↔ x ∈ ys) → xs = ys := fun {xs ys} h1 h2 m =>
  List.Perm.eq_of_pairwise (le := fun a b : Int => a < b) (fun a b _ _ p q => absurd p (by omega)) h1 h2 ((List.perm_ext_iff_of_nodup (h1.imp fun {a b} q => by omega) (h2.imp fun {a b} q => by omega)).mpr m)
theorem steps_same {A B : List Gr} (hA : ∀ g ∈ A, okG g) (hB : ∀ g ∈ B, okG g) (h : ∀ t, ptm A t = ptm B t) : stepsF (ptm A) [] (SIn (A.map (·.t))) = stepsF (ptm B) [] (SIn (B.map (·.t))) := by
  have key : ∀ {C : List Gr} {P : Int → List (Int × Int)}, (∀ t, P t = ptm C t) → (∀ g ∈ C, g ∈ A ∨ g ∈ B) → P = ptm A → stepsF P [] (SIn ((A ++ B).map (·.t))) = stepsF P [] (SIn (C.map (·.t))) := by
    intro C P hP hC eP
    have r := steps_red hP (SIn ((A ++ B).map (·.t))) [] [] (by simpa using SIn_sorted _) (fun a ha => by
      simp only [List.nil_append, mem_SIn]
      exact List.mem_map.mpr ⟨a, by rcases hC a ha with q | q; exact List.mem_append_left _ q; exact List.mem_append_right _ q, rfl⟩) (fun t ht => by
      obtain ⟨a, ha, rfl⟩ := List.mem_map.mp (mem_SIn.mp ht)
      rw [eP]
      rcases List.mem_append.mp ha with q | q
      · exact ptm_ne hA q (Int.le_refl _)
      · rw [h]; exact ptm_ne hB q (Int.le_refl _)) (fun t _ k => by
      rw [hP]
      have : (C.filter fun y => decide (y.t ≤ t)) = [] := List.filter_eq_nil_iff.mpr fun y hy q => by
        have m : y.t ∈ SIn ((A ++ B).map (·.t)) := mem_SIn.mpr (List.mem_map.mpr ⟨y, by rcases hC y hy with q | q; exact List.mem_append_left _ q; exact List.mem_append_right _ q, rfl⟩)
        have := k _ m
        simp only [decide_eq_true_eq] at q
        omega
      unfold ptm
      rw [this]
      simp [mxl, sortP, ddP, lv])
    rw [r]
    congr 1
    refine sorted_same ((SIn_sorted _).sublist List.filter_sublist) (SIn_sorted _) fun x => ?_
    simp only [List.mem_filter, mem_SIn, decide_eq_true_eq, List.mem_map]
    constructor
    · exact fun q => q.2
    · rintro ⟨a, ha, rfl⟩
      exact ⟨⟨a, by rcases hC a ha with q | q; exact List.mem_append_left _ q; exact List.mem_append_right _ q, rfl⟩, a, ha, rfl⟩
  have eAB : ptm B = ptm A := by funext t; exact (h t).symm
  rw [← key (C := A) (fun _ => rfl) (fun g q => .inl q) rfl, ← key (C := B) (P := ptm B) (fun _ => rfl) (fun g q => .inr q) eAB, eAB]
theorem cov_iff {a b : Int × Int} : cov a b = true ↔ b.1 ≤ a.1 ∧ b.2 ≤ a.2 := by simp [cov]
theorem cov_anti {a b : Int × Int} (h : cov a b = true) (g : cov b a = true) : a = b := by
  simp only [cov, Bool.and_eq_true, decide_eq_true_eq] at *
  exact Prod.ext (by omega) (by omega)
theorem mxl_mem {ps : List (Int × Int)} {m : Int × Int} : m ∈ mxl ps ↔ m ∈ ps ∧ ∀ o ∈ ps, cov o m = true → o = m := by
  unfold mxl
  simp only [List.mem_filter, mem_sortP, Bool.not_eq_true', List.any_eq_false, Bool.and_eq_true, decide_eq_false_iff_not, not_and]
  refine and_congr_right fun _ => ⟨fun h o ho c => ?_, fun h o ho n c => n (h o ho c)⟩
  exact Decidable.byContradiction fun n => h o ho n c
theorem mxl_same {ps qs : List (Int × Int)} (hp : ∀ p ∈ ps, okP p) (h1 : ∀ p ∈ ps, ∃ q ∈ qs, cov q p = true) (h2 : ∀ q ∈ qs, ∃ p ∈ ps, cov p q = true) : mxl ps = mxl qs := by
  have one : ∀ {a b : List (Int × Int)}, (∀ p ∈ a, ∃ q ∈ b, cov q p = true) → (∀ q ∈ b, ∃ p ∈ a, cov p q = true) → ∀ m, m ∈ mxl a → m ∈ mxl b := by
    intro a b k1 k2 m hm
    obtain ⟨m1, m2⟩ := mxl_mem.mp hm
    obtain ⟨q, hq, c⟩ := k1 m m1
    obtain ⟨p, hp, c2⟩ := k2 q hq
    have e1 := m2 p hp (cov_trans c2 c)
    subst e1
    have e2 := cov_anti c c2
    subst e2
    refine mxl_mem.mpr ⟨hq, fun o ho co => ?_⟩
    obtain ⟨p2, hp2, c3⟩ := k2 o ho
    have e3 := m2 p2 hp2 (cov_trans c3 co)
    subst e3
    exact cov_anti co c3
  exact sortP_unique (fun p m => hp p (mxl_mem.mp m).1) ((sorted_sortP ps).sublist List.filter_sublist) ((sorted_sortP qs).sublist List.filter_sublist) (nodup_sortP.sublist List.filter_sublist) (nodup_sortP.sublist List.filter_sublist) fun p => ⟨one h1 h2 p, one h2 h1 p⟩
theorem cnt_iff {ow : List Str} {gs : List Gr} {x : Gr} : x ∈ cnt ow gs ↔ x ∈ gs ∧ (x.g ∈ ow ∨ ∃ y ∈ cnt ow gs, supp y x = true) := by
  constructor
  · exact fun h => ⟨cnt_mem h, cnt_stand ow gs x h⟩
  · rintro ⟨h, h2⟩
    refine cnt_max (T := x :: cnt ow gs) (fun z hz => ?_) (fun z hz => ?_) x (by simp)
    · rcases List.mem_cons.mp hz with rfl | hz
      · rcases h2 with q | ⟨y, hy, q⟩
        · exact .inl q
        · exact .inr ⟨y, List.mem_cons_of_mem _ hy, q⟩
      · rcases cnt_stand ow gs z hz with q | ⟨y, hy, q⟩
        · exact .inl q
        · exact .inr ⟨y, List.mem_cons_of_mem _ hy, q⟩
    · rcases List.mem_cons.mp hz with rfl | hz
      · exact h
      · exact cnt_mem hz
theorem cnt_mono {ow : List Str} {xs ys : List Gr} (h : ∀ x ∈ xs, x ∈ ys) {x : Gr} (m : x ∈ cnt ow xs) : x ∈ cnt ow ys := cnt_max (cnt_stand ow xs) (fun z hz => h z (cnt_mem hz)) x m
theorem supp_iff {a b : Gr} : supp a b = true ↔ a.k = b.g ∧ a.t < b.t ∧ b.l ≤ a.l ∧ b.p < a.p := by simp [supp]
theorem idle_cov {ow : List Str} {gs P : List Gr} (sub : ∀ x ∈ P, x ∈ gs) {g : Gr} (h : g ∈ cnt ow P) (n : g ∉ cnt ow (restL gs g)) : ∃ y ∈ cnt ow P, y.k = g.k ∧ y.t < g.t ∧ g.l ≤ y.l ∧ g.p ≤ y.p := by
  refine Decidable.byContradiction fun no => n ?_
  refine cnt_max (T := (cnt ow P).filter fun x => decide (x = g) || (decide (g.l ≤ x.l) && (decide (g.p < x.p) && decide (x.t < g.t)))) (fun x hx => ?_) (fun x hx => ?_) g (List.mem_filter.mpr ⟨h, by simp⟩)
  · obtain ⟨h1, h2⟩ := List.mem_filter.mp hx
    rcases cnt_stand ow P x h1 with q | ⟨y, hy, q⟩
    · exact .inl q
    · refine .inr ⟨y, List.mem_filter.mpr ⟨hy, ?_⟩, q⟩
      have s := supp_iff.mp q
      simp only [Bool.or_eq_true, Bool.and_eq_true, decide_eq_true_eq] at h2 ⊢
      right
      rcases h2 with rfl | h2
      · exact ⟨s.2.2.1, s.2.2.2, s.2.1⟩
      · refine ⟨?_, ?_, ?_⟩ <;> omega
  · obtain ⟨h1, h2⟩ := List.mem_filter.mp hx
    simp only [Bool.or_eq_true, Bool.and_eq_true, decide_eq_true_eq] at h2
    refine mem_restL.mpr ⟨sub x (cnt_mem h1), ?_⟩
    rcases h2 with rfl | h2
    · exact .inr (Int.le_refl _)
    · refine .inl fun e => no ⟨x, h1, e, h2.2.2, h2.1, by omega⟩
theorem core_cov {ow : List Str} {gs P Q : List Gr} (sub : ∀ x ∈ P, x ∈ gs) (hQ : ∀ x ∈ P, x ∈ coreL ow gs → x ∈ Q) (tb : ∃ b : Int, ∀ x ∈ P, b ≤ x.t) : ∀ g ∈ cnt ow P, (g ∈ coreL ow gs → g ∈ cnt ow Q) ∧ ∃ y ∈ cnt ow Q, y.k = g.k ∧ y.t ≤ g.t ∧ g.l ≤ y.l ∧ g.p ≤ y.p := by
  obtain ⟨b, hb⟩ := tb
  have main : ∀ (n : Nat) (g : Gr), g ∈ cnt ow P → (g.t - b).toNat ≤ n → (g ∈ coreL ow gs → g ∈ cnt ow Q) ∧ ∃ y ∈ cnt ow Q, y.k = g.k ∧ y.t ≤ g.t ∧ g.l ≤ y.l ∧ g.p ≤ y.p := by
    intro n
    induction n with
    | zero =>
      intro g hg hn
      have gP := cnt_mem hg
      have gb := hb g gP
      have useful : g ∈ coreL ow gs → g ∈ cnt ow Q := fun hu => by
        refine cnt_iff.mpr ⟨hQ g gP hu, ?_⟩
        rcases (cnt_iff.mp hg).2 with q | ⟨y, hy, q⟩
        · exact .inl q
        · have := supp_t q; have := hb y (cnt_mem hy); omega
      refine ⟨useful, ?_⟩
      by_cases hu : g ∈ coreL ow gs
      · exact ⟨g, useful hu, rfl, Int.le_refl _, Int.le_refl _, Int.le_refl _⟩
      · obtain ⟨y, hy, _, lt, _⟩ := idle_cov sub hg (fun m => hu (mem_coreL.mpr ⟨sub g gP, m⟩))
        have := hb y (cnt_mem hy); omega
    | succ n ih =>
      intro g hg hn
      have gP := cnt_mem hg
      have gb := hb g gP
      have useful : g ∈ coreL ow gs → g ∈ cnt ow Q := fun hu => by
        refine cnt_iff.mpr ⟨hQ g gP hu, ?_⟩
        rcases (cnt_iff.mp hg).2 with q | ⟨y, hy, q⟩
        · exact .inl q
        · have lt := supp_t q
          have yb := hb y (cnt_mem hy)
          obtain ⟨z, hz, c1, c2, c3, c4⟩ := (ih y hy (by omega)).2
          have s := supp_iff.mp q
          exact .inr ⟨z, hz, supp_iff.mpr ⟨by rw [c1]; exact s.1, by omega, by omega, by omega⟩⟩
      refine ⟨useful, ?_⟩
      by_cases hu : g ∈ coreL ow gs
      · exact ⟨g, useful hu, rfl, Int.le_refl _, Int.le_refl _, Int.le_refl _⟩
      · obtain ⟨y, hy, e, lt, l1, l2⟩ := idle_cov sub hg (fun m => hu (mem_coreL.mpr ⟨sub g gP, m⟩))
        have yb := hb y (cnt_mem hy)
        obtain ⟨z, hz, c1, c2, c3, c4⟩ := (ih y hy (by omega)).2
        exact ⟨z, hz, by rw [c1, e], by omega, by omega, by omega⟩
  exact fun g hg => main _ g hg (Nat.le_refl _)
theorem low {gs : List Gr} (h : ∀ g ∈ gs, okG g) : ∃ b : Int, ∀ x ∈ gs, b ≤ x.t := ⟨_, fun x hx => (h x hx).t1⟩
theorem steps_core {ow : List Str} {gs P Q : List Gr} (ok : ∀ g ∈ gs, okG g) (sub : ∀ x ∈ P, x ∈ gs) (sQ : ∀ x ∈ Q, x ∈ P) (hQ : ∀ x ∈ P, x ∈ coreL ow gs → x ∈ Q) (x : Str) : stepsL ow P x = stepsL ow Q x := by
  have okP' : ∀ g ∈ P, okG g := fun g hg => ok g (sub g hg)
  have cv := core_cov (ow := ow) sub hQ (low okP')
  refine steps_same (fun g hg => okP' g (cnt_mem (List.mem_filter.mp hg).1)) (fun g hg => okP' g (sQ g (cnt_mem (List.mem_filter.mp hg).1))) fun t => ?_
  unfold ptm
  refine mxl_same (fun p hp => ?_) (fun p hp => ?_) (fun q hq => ?_)
  · obtain ⟨g, hg, rfl⟩ := List.mem_map.mp hp
    exact okP_pr (okP' g (cnt_mem (List.mem_filter.mp (List.mem_filter.mp hg).1).1))
  · obtain ⟨g, hg, rfl⟩ := List.mem_map.mp hp
    obtain ⟨h1, h2⟩ := List.mem_filter.mp hg
    obtain ⟨h3, h4⟩ := List.mem_filter.mp h1
    simp only [decide_eq_true_eq] at h2 h4
    obtain ⟨y, hy, e, lt, l1, l2⟩ := (cv g h3).2
    refine ⟨pr y, List.mem_map.mpr ⟨y, List.mem_filter.mpr ⟨List.mem_filter.mpr ⟨hy, by simp [e, h4]⟩, by simp only [decide_eq_true_eq]; omega⟩, rfl⟩, ?_⟩
    exact cov_iff.mpr ⟨l1, l2⟩
  · obtain ⟨g, hg, rfl⟩ := List.mem_map.mp hq
    obtain ⟨h1, h2⟩ := List.mem_filter.mp hg
    obtain ⟨h3, h4⟩ := List.mem_filter.mp h1
    exact ⟨pr g, List.mem_map.mpr ⟨g, List.mem_filter.mpr ⟨List.mem_filter.mpr ⟨cnt_mono sQ h3, h4⟩, h2⟩, rfl⟩, cov_self _⟩
theorem core_part {ow : List Str} {gs xs : List Gr} (ok : ∀ g ∈ gs, okG g) (nd : gs.Nodup) (h : ∀ x ∈ coreL ow gs, x ∈ xs) : coreL ow (among gs xs) = coreL ow gs := by
  have s1 : SG (coreL ow (among gs xs)) := (sortG_sorted _).sublist List.filter_sublist
  have s2 : SG (coreL ow gs) := (sortG_sorted _).sublist List.filter_sublist
  refine s1.same s2 (nodup_perm (((sortG_perm _).nodup_iff.mpr (among_nodup nd xs)).sublist List.filter_sublist) (((sortG_perm _).nodup_iff.mpr nd).sublist List.filter_sublist) fun x => ?_)
  rw [mem_coreL, mem_coreL]
  constructor
  · rintro ⟨a, b⟩
    exact ⟨(mem_among.mp a).1, cnt_mono (fun y hy => by
      obtain ⟨c, d⟩ := mem_restL.mp hy
      exact mem_restL.mpr ⟨(mem_among.mp c).1, d⟩) b⟩
  · rintro ⟨a, b⟩
    have hu : x ∈ coreL ow gs := mem_coreL.mpr ⟨a, b⟩
    refine ⟨mem_among.mpr ⟨a, h x hu⟩, ?_⟩
    have okR : ∀ y ∈ restL gs x, okG y := fun y hy => ok y (mem_restL.mp hy).1
    exact (core_cov (ow := ow) (gs := gs) (P := restL gs x) (Q := restL (among gs xs) x) (fun y hy => (mem_restL.mp hy).1) (fun y hy hc => mem_restL.mpr ⟨mem_among.mpr ⟨(mem_restL.mp hy).1, h y hc⟩, (mem_restL.mp hy).2⟩) (low okR) x b).1 hu
end Gt
set_option Elab.async false
set_option linter.all false
set_option maxRecDepth 100000
set_option maxHeartbeats 1000000
namespace Gt
open PySem PySem.Spec PyProof.Rows L2
theorem x_addT {xs ys : List D} (h : xs.length + ys.length ≤ cap) : addS (.tup xs) (.tup ys) = some (.pl (.tup (xs ++ ys))) := by simp only [addS, if_pos h]
theorem pers_len (ow : List Str) (gs : List Gr) : (pers ow gs).length ≤ 2 * gs.length := by
  have := SN_len (nms gs)
  rw [nms_len] at this
  exact Nat.le_trans (List.length_filter_le _ _) this
theorem pers_ok {ow : List Str} {gs : List Gr} (h : ∀ g ∈ gs, okG g) : ∀ x ∈ pers ow gs, okN x := fun x hx => by
  obtain ⟨⟨g, hg, e⟩, n⟩ := mem_pers.mp hx
  rcases e with rfl | rfl
  · exact (h g hg).g
  · exact (h g hg).k
theorem is_same_ok {ow : List Str} {f s : List Gr} (vf : VRo ow f) (vs : VRo ow s) (h : ∀ x, stepsL ow f x = stepsL ow s x) (S : Ms) : f_law_is_same [.pl (Rl ow f), .pl (Rl ow s)] S = .ok (.pl (.bl true)) S := by
  have l1 := vf.g1
  have l2 := vs.g1
  have lf : (sortG f).length ≤ 60 := by rw [(sortG_perm f).length_eq]; exact l1
  have ls : (sortG s).length ≤ 60 := by rw [(sortG_perm s).length_eq]; exact l2
  have pf := pers_len ow (sortG f)
  have ps := pers_len ow (sortG s)
  have ad4 : addS (NT (pers ow (sortG f))) (NT (pers ow (sortG s))) = some (.pl (NT (pers ow (sortG f) ++ pers ow (sortG s)))) := by
    rw [x_addT (by show _ ≤ 1000000; simp; omega), ← List.map_append]
  have hss : sortSetS [NT (pers ow (sortG f) ++ pers ow (sortG s))] = some (.own ((SN (pers ow (sortG f) ++ pers ow (sortG s))).map D.str)) := sset_T (by simp; omega)
  have hgv : ∀ x ∈ SN (pers ow (sortG f) ++ pers ow (sortG s)), okN x := fun x hx => by
    rcases List.mem_append.mp (mem_SN.mp hx) with q | q
    · exact pers_ok (fun g hg => vf.gg g (mem_sortG.mp hg)) x q
    · exact pers_ok (fun g hg => vs.gg g (mem_sortG.mp hg)) x q
  have lg : (SN (pers ow (sortG f) ++ pers ow (sortG s))).length ≤ cap := by
    have := SN_len (pers ow (sortG f) ++ pers ow (sortG s))
    rw [List.length_append] at this
    show _ ≤ 1000000; omega
  generalize hgvs : SN (pers ow (sortG f) ++ pers ow (sortG s)) = gv at *
  have hc := comp_typed (tg := .nm 3) (t := tB' (eB neS (eFn f_steps_of [] [eV 0, eV 3]) (eFn f_steps_of [] [eV 1, eV 3]))) (f := eV 3) (δ := [.pl (Rl ow f), .pl (Rl ow s), .pl (NL gv), .no]) (S := S) D.str (fun _ => false) D.str gv fun y hy => by
    refine ⟨[.pl (Rl ow f), .pl (Rl ow s), .pl (NL gv), .pl (.str y)], by simp, ?_, fun _ => ⟨.pl (.str y), by simp, rfl⟩⟩
    have k1 := steps_of_ok vf (hgv y hy) S
    have k2 := steps_of_ok vs (hgv y hy) S
    rw [← h y] at k2
    have kn : neS (.lst ((stepsL ow f y).map sD)) (.lst ((stepsL ow f y).map sD)) = some (.pl (.bl false)) := by rw [neS_SL]; simp
    generalize (stepsL ow f y).map sD = w at k1 k2 kn
    simp [k1, k2, kn]
  rw [List.filter_eq_nil_iff.mpr (fun _ _ => by simp)] at hc
  simp only [List.map_nil] at hc
  have e0 : eqS (.lst []) (.lst []) = some (.pl (.bl true)) := by
    have := eqS_SLn []
    simpa using this
  refine run_rt ?_
  show b_law_is_same [.pl (Rl ow f), .pl (Rl ow s), .no, .no] _ = _
  refine seq_ok (δ1 := [.pl (Rl ow f), .pl (Rl ow s), .pl (NL gv), .no]) (S1 := S) (by
    have p1 := persons_ok vf S
    have p2 := persons_ok vs S
    generalize pers ow (sortG f) ++ pers ow (sortG s) = z1 at ad4 hss
    simp [p1, p2, ad4, hss]) ?_
  simp [lg, hc, e0]
theorem useful_paper_ok {ow : List Str} {gs : List Gr} (v : VRo ow gs) {x : Gr} (hx : x ∈ coreL ow gs) (S : Ms) : ∃ c, f_useful_paper [.pl (Rl ow gs), .pl (G x)] S = .ok (.pl (.tup [.str (Str.ofString "useful"), GL c])) S ∧ chP ow (restL gs x) x c ∧ c.length ≤ 60 := by
  obtain ⟨h1, h2⟩ := mem_coreL.mp hx
  have ndR : (restL gs x).Nodup := ((sortG_perm gs).nodup_iff.mpr v.gd).sublist List.filter_sublist
  obtain ⟨r, e, _, k⟩ := chain_in_ok (OwD.T v.on) (rest_okG v x) (by have := restL_len gs x; have := v.g1; omega) ndR x S
  obtain ⟨c, rfl, hc, hlc⟩ := k h2
  have cm : f_check_members [.pl (Rl ow gs), .pl (.lst [G x])] S = .ok (.pl .non) S := check_members_ok v (xs := [x]) (fun y hy => by simp only [List.mem_singleton] at hy; subst hy; exact h1) S
  have l1 : 1 ≤ cap := by decide
  have l2 : 2 ≤ cap := by decide
  refine ⟨c, run_rt ?_, hc, by have := restL_len gs x; have := v.g1; omega⟩
  show b_useful_paper [.pl (Rl ow gs), .pl (G x), .no, .no] _ = _
  simp [b_useful_paper, cm, rest_ok v, owners_ok, e, l1, l2]
theorem stepsL_nil {ow : List Str} {gs : List Gr} {x : Str} (h : tkn ow gs x = []) : stepsL ow gs x = [] := by
  unfold stepsL
  rw [h]
  simp [SIn, sortK, ddK, stepsF]
theorem stepsF_ne (P : Int → List (Int × Int)) : ∀ (T : List Int) (acc : List Stp'), acc ≠ [] → stepsF P acc T ≠ []
  | [], acc, h => h
  | t :: T, acc, h => by
    rw [stepsF]
    refine stepsF_ne P T _ ?_
    split
    · simp
    · exact h
theorem stepsL_ne {ow : List Str} {gs : List Gr} {x : Str} {g : Gr} (h : g ∈ tkn ow gs x) : stepsL ow gs x ≠ [] := by
  unfold stepsL
  have m : g.t ∈ SIn ((tkn ow gs x).map (·.t)) := mem_SIn.mpr (List.mem_map.mpr ⟨g, h, rfl⟩)
  cases e : SIn ((tkn ow gs x).map (·.t)) with
  | nil => rw [e] at m; cases m
  | cons t T =>
    rw [stepsF]
    refine stepsF_ne _ _ _ ?_
    have : isNew' (ptm (tkn ow gs x)) [] t = true := rfl
    rw [if_pos this]
    simp
theorem matters_ok {ow : List Str} {gs : List Gr} (v : VRo ow gs) {x : Gr} (hx : x ∈ coreL ow gs) (S : Ms) : f_law_matters [.pl (Rl ow gs), .pl (G x)] S = .ok (.pl (.bl true)) S := by
  obtain ⟨c, e, hc, hlc⟩ := useful_paper_ok v hx S
  have hxg := (mem_coreL.mp hx).1
  have okx := v.gg x hxg
  have cg : ∀ y ∈ c, y ∈ gs := fun y hy => (mem_restL.mp (hc.s y hy)).1
  have o1 := only_ok v cg S
  have o2 := only_ok v (xs := c.filter fun y => !decide (y = x)) (fun y hy => cg y (List.mem_filter.mp hy).1) S
  have s1 := steps_of_ok (v.part c) okx.k S
  have s2 := steps_of_ok (v.part (c.filter fun y => !decide (y = x))) okx.k S
  have n1 : stepsL ow (among gs c) x.k ≠ [] := stepsL_ne (g := x) (List.mem_filter.mpr ⟨cnt_max hc.st (fun z hz => mem_among.mpr ⟨cg z hz, hz⟩) x hc.m, by simp⟩)
  have n2 : stepsL ow (among gs (c.filter fun y => !decide (y = x))) x.k = [] := stepsL_nil (List.filter_eq_nil_iff.mpr fun y hy k => by
    have m := (mem_among.mp (cnt_mem hy)).2
    obtain ⟨m1, m2⟩ := List.mem_filter.mp m
    have ne : y ≠ x := by simpa using m2
    have lt := hc.t y m1 ne
    have := (mem_restL.mp (hc.s y m1)).2
    simp only [decide_eq_true_eq] at k
    rcases this with q | q
    · exact q k
    · omega)
  rw [n2] at s2
  have hne : neS (.lst ((stepsL ow (among gs c) x.k).map sD)) (.lst []) = some (.pl (.bl true)) := by
    have := neS_SL (stepsL ow (among gs c) x.k) []
    simp only [List.map_nil] at this
    rw [this]; simp [n1]
  simp only [List.map_nil] at s2
  have l2 : 2 ≤ cap := by decide
  have lc : c.length ≤ cap := by show _ ≤ 1000000; omega
  have hcc := comp_typed (tg := .nm 6) (t := tB' (eB neS (eV 6) (eV 1))) (f := eV 6) (δ := [.pl (Rl ow gs), .pl (G x), .pl (.str (Str.ofString "useful")), .pl (GL c), .no, .no, .no]) (S := S) G (fun y => !decide (y = x)) G c fun y hy => by
    refine ⟨[.pl (Rl ow gs), .pl (G x), .pl (.str (Str.ofString "useful")), .pl (GL c), .no, .no, .pl (G y)], by simp, ?_, fun _ => ⟨.pl (G y), by simp, rfl⟩⟩
    simp [neS_G (v.gg y (cg y hy)).s okx.s]
  generalize c.filter (fun y => !decide (y = x)) = c' at *
  generalize (stepsL ow (among gs c) x.k).map sD = w at s1 hne
  refine run_rt ?_
  show b_law_matters [.pl (Rl ow gs), .pl (G x), .no, .no, .no, .no, .no] _ = _
  refine seq_ok (δ1 := [.pl (Rl ow gs), .pl (G x), .pl (.str (Str.ofString "useful")), .pl (GL c), .no, .no, .no]) (S1 := S) (by simp [e]) ?_
  refine seq_ok (δ1 := [.pl (Rl ow gs), .pl (G x), .pl (.str (Str.ofString "useful")), .pl (GL c), .no, .no, .no]) (S1 := S) (by simp) ?_
  refine seq_ok (δ1 := [.pl (Rl ow gs), .pl (G x), .pl (.str (Str.ofString "useful")), .pl (GL c), .pl (Rl ow (among gs c)), .pl (Rl ow (among gs c')), .no]) (S1 := S) ?_ ?_
  · generalize hR : Rl ow (among gs c) = R1 at o1
    generalize hR2 : Rl ow (among gs c') = R2 at o2
    unfold Rl at *
    simp [o1, o2, lc, hcc]
  · simp [gx2, s1, s2, hne]
theorem neS_NT {x y : List Str} (a : ∀ z ∈ x, okS z = true) (b : ∀ z ∈ y, okS z = true) : neS (NT x) (NT y) = some (.pl (.bl (!decide (x = y)))) := by
  have ev : PyData.eqv (toPy (NT x)) (toPy (NT y)) = decide (x = y) := by
    rw [toPy_tup, toPy_tup, PyData.eqv, List.map_map, List.map_map]
    refine eqvAll_map _ (fun a b => ?_) x y
    simp only [Function.comp_def, toPy_str, eqv_str]
  simp only [neS, eqD, (okd.NT a).p (by decide), (okd.NT b).p (by decide), ev]; rfl
theorem gives_ok {ow : List Str} {f s : List Gr} (vf : VRo ow f) (vs : VRo ow s) (h : ∀ x ∈ coreL ow f, x ∈ s) (S : Ms) : f_gives_no_more [.pl (Rl ow f), .pl (Rl ow s)] S = .ok (.pl .non) S := by
  have q := neS_NT (x := sortN ow) (y := sortN ow) (fun z hz => (vf.on z (mem_sortN.mp hz)).s) (fun z hz => (vf.on z (mem_sortN.mp hz)).s)
  have co : f_check_owners_cores [.pl (Rl ow f), .pl (Rl ow s)] S = .ok (.pl .non) S := by
    refine run_nx (δ' := [.pl (Rl ow f), .pl (Rl ow s)]) ?_
    show b_check_owners_cores [.pl (Rl ow f), .pl (Rl ow s)] _ = _
    simp [b_check_owners_cores, owners_ok, q]
  obtain ⟨δ1, e1, a, rfl⟩ := loop_pass (tg := .nm 2) (body := sIf (tB' (eB notInS (eV 2) (eProp f_Roll_grants (eV 1)))) (sRet (eCall sortS [eFn f_chain_in [] [eProp f_Roll_owners (eV 0), eFn f_rest_for [] [eV 0, eV 2], eV 2]])) (sNx)) (S := S) (fun δ => ∃ a, δ = [.pl (Rl ow f), .pl (Rl ow s), a]) ((coreL ow f).map G) [.pl (Rl ow f), .pl (Rl ow s), .no] ⟨_, rfl⟩ fun z hz δ ⟨a, e⟩ => by
    subst e
    obtain ⟨y, hy, rfl⟩ := List.mem_map.mp hz
    refine ⟨[.pl (Rl ow f), .pl (Rl ow s), .pl (G y)], [.pl (Rl ow f), .pl (Rl ow s), .pl (G y)], by simp, ?_, _, rfl⟩
    have : notInS (G y) (GT (sortG s)) = some (.pl (.bl false)) := by
      rw [notInS_of (inD_GT (vs.gg y (h y hy)).s fun z hz => (vs.gg z (mem_sortG.mp hz)).s)]
      simp [mem_sortG, h y hy]
    simp [grants_ok, this]
  refine run_rt ?_
  show b_gives_no_more [.pl (Rl ow f), .pl (Rl ow s), .no] _ = _
  refine seq_ok (δ1 := [.pl (Rl ow f), .pl (Rl ow s), .no]) (S1 := S) (by simp [co]) ?_
  refine seq_ok (δ1 := [.pl (Rl ow f), .pl (Rl ow s), a]) (S1 := S) ?_ (by simp)
  rw [x_sFor]
  rw [show (iE (eFn f_core [] [eV 0])) [.pl (Rl ow f), .pl (Rl ow s), .no] S = .ok ((coreL ow f).map G) S from by simp [core_ok vf]]
  exact e1
theorem under_ok {ow : List Str} {f s : List Gr} (vf : VRo ow f) (vs : VRo ow s) (h : ∀ x ∈ coreL ow f, x ∈ s) (h2 : ∀ x ∈ coreL ow s, x ∈ f) (S : Ms) : f_same_under_revoking [.pl (Rl ow f), .pl (Rl ow s)] S = .ok (.pl .non) S := by
  have g1 := gives_ok vf vs h S
  have g2 := gives_ok vs vf h2 S
  refine run_rt ?_
  show b_same_under_revoking [.pl (Rl ow f), .pl (Rl ow s), .no] _ = _
  simp [b_same_under_revoking, g1, g2]
end Gt
set_option Elab.async false
set_option linter.all false
set_option maxRecDepth 100000
set_option maxHeartbeats 1000000
namespace Gt
open PySem PySem.Spec PyProof.Rows L2
theorem flt_gen {t : Ft} {δ : Evm} (hl : 12 < δ.length) (ht : ∀ (x : Gr) (n : Nat) (S : Ms), Gen n S → n ≤ 99000000 → ∃ b S', t (δ.set 12 (.pl (G x))) S = .ok b S' ∧ Gen (n + 1) S') : ∀ (gs : List Gr) (n : Nat) (S : Ms), Gen n S → n + gs.length ≤ 99000000 →
    ∃ (xs : List Gr) (S' : Ms), compL (.nm 12) t (eV 12) δ (gs.map G) S = .ok (xs.map G) S' ∧ xs.Sublist gs ∧ Gen (n + gs.length) S' := by
  intro gs
  induction gs with
  | nil => exact fun n S h _ => ⟨[], S, rfl, .refl _, h⟩
  | cons x gs ih =>
    intro n S h hn
    simp only [List.length_cons] at hn
    obtain ⟨b, S1, e, g1⟩ := ht x n S h (by omega)
    obtain ⟨xs, S2, e2, sub, g2⟩ := ih (n + 1) S1 g1 (by omega)
    have g3 : Gen (n + (x :: gs).length) S2 := by rw [List.length_cons, Nat.add_comm gs.length 1, ← Nat.add_assoc]; exact g2
    have hs : setT (.nm 12) (G x) δ = some (δ.set 12 (.pl (G x))) := by simp [hl]
    have hv : (δ.set 12 (Sl.pl (G x)))[12]? = some (.pl (G x)) := by simp [hl]
    cases b with
    | true =>
      refine ⟨x :: xs, S2, ?_, sub.cons_cons x, g3⟩
      rw [List.map_cons, compL, hs]
      dsimp only
      rw [e, cut_ok, bind_ok, if_pos rfl, x_eV, hv]
      simp [e2]
    | false =>
      refine ⟨xs, S2, ?_, sub.cons x, g3⟩
      rw [List.map_cons, compL, hs]
      dsimp only
      rw [e, cut_ok, bind_ok, if_neg (by decide)]
      exact e2
noncomputable abbrev parB : Fs := sSeq (sAsg 10 (eComp (.nm 12) (iE (eProp f_Roll_grants (eV 6))) (tB' (eB gtS (eFn f_law_draw [] [eV 1, eC (.int 3)]) (eC (.int 0)))) (eV 12)))
  (sSeq (sIf (tNot' (tV (eFn f_law_is_same [] [eMeth f_Roll_only (eV 6) [eV 10], eMeth f_Roll_only (eV 6) [eComp (.nm 12) (iVc 10) (tB' (eB inS (eV 12) (eV 7))) (eV 12)]]))) (sRet (eC (.bl false))) (sNx))
  (sSeq (sAsg 11 (eMeth f_Roll_only (eV 6) [eB addS (eV 7) (eComp (.nm 12) (iE (eProp f_Roll_grants (eV 6))) (tB' (eB eqS (eFn f_law_draw [] [eV 1, eC (.int 2)]) (eC (.int 0)))) (eV 12))]))
  (sIf (tOr' (tB' (eB neS (eFn f_core [] [eV 11]) (eV 7))) (tNot' (tV (eFn f_law_is_same [] [eV 11, eV 8])))) (sRet (eC (.bl false))) (sNx))))
section
variable {ow : List Str} {gs : List Gr}
theorem parB_ok (v : VRo ow gs) {n : Nat} {S : Ms} {d0 d2 d3 d4 d5 d9 a10 a11 : Sl} (h : Gen n S) (hn : n ≤ 80000000) : ∃ (b10 b11 : Sl) (S' : Ms), parB [d0, .pl (.ref 1), d2, d3, d4, d5, .pl (Rl ow gs), .pl (GL (coreL ow gs)), .pl (Rl ow (among gs (coreL ow gs))), d9, a10, a11, .no] S = .ok (.nx [d0, .pl (.ref 1), d2, d3, d4, d5, .pl (Rl ow gs), .pl (GL (coreL ow gs)), .pl (Rl ow (among gs (coreL ow gs))), d9, b10, b11, .no]) S' ∧ Gen (n + 200) S' := by
  have lg := v.g1
  have lS : (sortG gs).length ≤ 60 := by rw [(sortG_perm gs).length_eq]; exact lg
  have lc : (sortG gs).length ≤ cap := by show _ ≤ 1000000; omega
  have Ug : ∀ x ∈ coreL ow gs, x ∈ gs := fun x hx => (mem_coreL.mp hx).1
  have lU : (coreL ow gs).length ≤ 60 := Nat.le_trans (List.length_filter_le _ _) lS
  obtain ⟨part, S1, e1, sub1, g1⟩ := flt_gen (t := tB' (eB gtS (eFn f_law_draw [] [eV 1, eC (.int 3)]) (eC (.int 0)))) (δ := [d0, .pl (.ref 1), d2, d3, d4, d5, .pl (Rl ow gs), .pl (GL (coreL ow gs)), .pl (Rl ow (among gs (coreL ow gs))), d9, a10, a11, .no]) (by simp) (fun x n S h hn => by
    obtain ⟨r, S1, e, r0, r1, g1⟩ := draw_ok (k := 3) h (by omega) (by omega) (by omega)
    exact ⟨decide (0 < r), S1, by simp [e], g1⟩) (sortG gs) n S h (by omega)
  have pg : ∀ x ∈ part, x ∈ gs := fun x hx => mem_sortG.mp (sub1.subset hx)
  have lp : part.length ≤ cap := by have := sub1.length_le; show _ ≤ 1000000; omega
  have hcc := comp_typed (tg := .nm 12) (t := tB' (eB inS (eV 12) (eV 7))) (f := eV 12) (δ := [d0, .pl (.ref 1), d2, d3, d4, d5, .pl (Rl ow gs), .pl (GL (coreL ow gs)), .pl (Rl ow (among gs (coreL ow gs))), d9, .pl (GL part), a11, .no]) (S := S1) G (fun y => decide (y ∈ coreL ow gs)) G part fun y hy => by
    refine ⟨[d0, .pl (.ref 1), d2, d3, d4, d5, .pl (Rl ow gs), .pl (GL (coreL ow gs)), .pl (Rl ow (among gs (coreL ow gs))), d9, .pl (GL part), a11, .pl (G y)], by simp, ?_, fun _ => ⟨.pl (G y), by simp, rfl⟩⟩
    have := inS_of (inD_GL (v.gg y (pg y hy)).s fun z hz => (v.gg z (Ug z hz)).s)
    simp [this]
  have o1 := only_ok v pg S1
  have o2 := only_ok v (xs := part.filter fun y => decide (y ∈ coreL ow gs)) (fun y hy => pg y (List.mem_filter.mp hy).1) S1
  have same1 := is_same_ok (v.part part) (v.part (part.filter fun y => decide (y ∈ coreL ow gs))) (fun x => steps_core v.gg (fun y hy => (mem_among.mp hy).1) (fun y hy => mem_among.mpr ⟨(mem_among.mp hy).1, (List.mem_filter.mp (mem_among.mp hy).2).1⟩) (fun y hy hc => mem_among.mpr ⟨(mem_among.mp hy).1, List.mem_filter.mpr ⟨(mem_among.mp hy).2, by simpa using hc⟩⟩) x) S1
  obtain ⟨xs, S2, e2, sub2, g2⟩ := flt_gen (t := tB' (eB eqS (eFn f_law_draw [] [eV 1, eC (.int 2)]) (eC (.int 0)))) (δ := [d0, .pl (.ref 1), d2, d3, d4, d5, .pl (Rl ow gs), .pl (GL (coreL ow gs)), .pl (Rl ow (among gs (coreL ow gs))), d9, .pl (GL part), a11, .no]) (by simp) (fun x n S h hn => by
    obtain ⟨r, S1, e, r0, r1, g1⟩ := draw_ok (k := 2) h (by omega) (by omega) (by omega)
    exact ⟨decide (r = 0), S1, by simp [e], g1⟩) (sortG gs) _ S1 g1 (by omega)
  have xg : ∀ x ∈ coreL ow gs ++ xs, x ∈ gs := fun x hx => by
    rcases List.mem_append.mp hx with q | q
    · exact Ug x q
    · exact mem_sortG.mp (sub2.subset q)
  have lx := sub2.length_le
  have ad : addS (GL (coreL ow gs)) (.lst (xs.map G)) = some (.own ((coreL ow gs ++ xs).map G)) := by
    rw [x_addL (by show _ ≤ 1000000; simp; omega), ← List.map_append]
  have o3 := only_ok v xg S2
  have vW := v.part (coreL ow gs ++ xs)
  have vU := v.part (coreL ow gs)
  have cW := core_ok vW S2
  rw [core_part v.gg v.gd (fun x hx => List.mem_append_left _ hx)] at cW
  have same2 := is_same_ok vW vU (fun x => steps_core v.gg (fun y hy => (mem_among.mp hy).1) (fun y hy => mem_among.mpr ⟨(mem_among.mp hy).1, List.mem_append_left _ (mem_among.mp hy).2⟩) (fun y hy hc => mem_among.mpr ⟨(mem_among.mp hy).1, hc⟩) x) S2
  have ne : neS (GL (coreL ow gs)) (GL (coreL ow gs)) = some (.pl (.bl false)) := by
    rw [neS_GL (fun z hz => (v.gg z (Ug z hz)).s) (fun z hz => (v.gg z (Ug z hz)).s)]; simp
  have hgr := grants_ok ow gs
  refine ⟨.pl (GL part), .pl (Rl ow (among gs (coreL ow gs ++ xs))), S2, ?_, g2.mono (by omega)⟩
  have noins : ∀ (A : List Gr), ∃ ds, Rl ow A = .ins 0 ds := fun A => ⟨_, rfl⟩
  have key : ∀ R : D, (∃ ds, R = .ins 0 ds) → True := fun _ _ => trivial
  refine seq_ok (δ1 := [d0, .pl (.ref 1), d2, d3, d4, d5, .pl (Rl ow gs), .pl (GL (coreL ow gs)), .pl (Rl ow (among gs (coreL ow gs))), d9, .pl (GL part), a11, .no]) (S1 := S1) (by
    generalize hU : Rl ow (among gs (coreL ow gs)) = RU at *
    generalize coreL ow gs = U at *
    simp [hgr, lc, e1]) ?_
  have m1 : eMeth f_Roll_only (eV 6) [eV 10] [d0, .pl (.ref 1), d2, d3, d4, d5, .pl (Rl ow gs), .pl (GL (coreL ow gs)), .pl (Rl ow (among gs (coreL ow gs))), d9, .pl (GL part), a11, .no] S1 = .ok (.pl (Rl ow (among gs part))) S1 := by
    have : f_Roll_only (.pl (Rl ow gs) :: [.pl (GL part)]) S1 = .ok (.pl (Rl ow (among gs part))) S1 := o1
    rw [x_eMeth]
    simp only [x_rd, x_eV, List.getElem?_cons_succ, List.getElem?_cons_zero, rd1_pl, bind_ok]
    unfold Rl at this ⊢
    simp [this]
  have m2 : eMeth f_Roll_only (eV 6) [eComp (.nm 12) (iVc 10) (tB' (eB inS (eV 12) (eV 7))) (eV 12)] [d0, .pl (.ref 1), d2, d3, d4, d5, .pl (Rl ow gs), .pl (GL (coreL ow gs)), .pl (Rl ow (among gs (coreL ow gs))), d9, .pl (GL part), a11, .no] S1 = .ok (.pl (Rl ow (among gs (part.filter fun y => decide (y ∈ coreL ow gs))))) S1 := by
    have ec : eComp (.nm 12) (iVc 10) (tB' (eB inS (eV 12) (eV 7))) (eV 12) [d0, .pl (.ref 1), d2, d3, d4, d5, .pl (Rl ow gs), .pl (GL (coreL ow gs)), .pl (Rl ow (among gs (coreL ow gs))), d9, .pl (GL part), a11, .no] S1 = .ok (.own ((part.filter fun y => decide (y ∈ coreL ow gs)).map G)) S1 := by
      simp [lp, hcc]
    generalize part.filter (fun y => decide (y ∈ coreL ow gs)) = pf at ec o2 ⊢
    have : f_Roll_only (.pl (Rl ow gs) :: [.pl (GL pf)]) S1 = .ok (.pl (Rl ow (among gs pf))) S1 := o2
    rw [x_eMeth]
    simp only [x_rd, x_eV, List.getElem?_cons_succ, List.getElem?_cons_zero, rd1_pl, bind_ok, x_fA1, ec]
    unfold Rl at this ⊢
    simp [this]
  refine seq_ok (δ1 := [d0, .pl (.ref 1), d2, d3, d4, d5, .pl (Rl ow gs), .pl (GL (coreL ow gs)), .pl (Rl ow (among gs (coreL ow gs))), d9, .pl (GL part), a11, .no]) (S1 := S1) (by
    rw [x_sIf, x_tNot, x_tV, x_rd, x_eFn]
    simp only [x_fA1, m1, m2, bind_ok, x_fA0]
    simp [same1]) ?_
  have m3 : eMeth f_Roll_only (eV 6) [eB addS (eV 7) (eComp (.nm 12) (iE (eProp f_Roll_grants (eV 6))) (tB' (eB eqS (eFn f_law_draw [] [eV 1, eC (.int 2)]) (eC (.int 0)))) (eV 12))] [d0, .pl (.ref 1), d2, d3, d4, d5, .pl (Rl ow gs), .pl (GL (coreL ow gs)), .pl (Rl ow (among gs (coreL ow gs))), d9, .pl (GL part), a11, .no] S1 = .ok (.pl (Rl ow (among gs (coreL ow gs ++ xs)))) S2 := by
    have ec : eB addS (eV 7) (eComp (.nm 12) (iE (eProp f_Roll_grants (eV 6))) (tB' (eB eqS (eFn f_law_draw [] [eV 1, eC (.int 2)]) (eC (.int 0)))) (eV 12)) [d0, .pl (.ref 1), d2, d3, d4, d5, .pl (Rl ow gs), .pl (GL (coreL ow gs)), .pl (Rl ow (among gs (coreL ow gs))), d9, .pl (GL part), a11, .no] S1 = .ok (.own ((coreL ow gs ++ xs).map G)) S2 := by
      generalize hU : Rl ow (among gs (coreL ow gs)) = RU at *
      generalize coreL ow gs ++ xs = w at ad
      generalize coreL ow gs = U at *
      simp [hgr, lc, e2, ad]
    generalize coreL ow gs ++ xs = w at ec o3 ⊢
    have : f_Roll_only (.pl (Rl ow gs) :: [.pl (GL w)]) S2 = .ok (.pl (Rl ow (among gs w))) S2 := o3
    rw [x_eMeth]
    simp only [x_rd, x_eV, List.getElem?_cons_succ, List.getElem?_cons_zero, rd1_pl, bind_ok, x_fA1, ec]
    unfold Rl at this ⊢
    simp [this]
  refine seq_ok (δ1 := [d0, .pl (.ref 1), d2, d3, d4, d5, .pl (Rl ow gs), .pl (GL (coreL ow gs)), .pl (Rl ow (among gs (coreL ow gs))), d9, .pl (GL part), .pl (Rl ow (among gs (coreL ow gs ++ xs))), .no]) (S1 := S2) (by
    rw [x_sAsg, m3]; simp) ?_
  generalize Rl ow (among gs (coreL ow gs ++ xs)) = RW at *
  generalize Rl ow (among gs (coreL ow gs)) = RU at *
  generalize coreL ow gs = U at *
  simp [cW, same2, ne]
theorem par_loop (v : VRo ow gs) {d0 d2 d3 d4 d5 : Sl} : ∀ (ks : List D) (n : Nat) (S : Ms) (a9 a10 a11 : Sl), Gen n S → n + 200 * ks.length ≤ 70000000 → ∃ (b9 b10 b11 : Sl) (S' : Ms), loop (.nm 9) parB ks [d0, .pl (.ref 1), d2, d3, d4, d5, .pl (Rl ow gs), .pl (GL (coreL ow gs)), .pl (Rl ow (among gs (coreL ow gs))), a9, a10, a11, .no] S = .ok (.nx [d0, .pl (.ref 1), d2, d3, d4, d5, .pl (Rl ow gs), .pl (GL (coreL ow gs)), .pl (Rl ow (among gs (coreL ow gs))), b9, b10, b11, .no]) S' ∧ Gen (n + 200 * ks.length) S' := by
  intro ks
  induction ks with
  | nil => exact fun n S a9 a10 a11 h _ => ⟨a9, a10, a11, S, rfl, by simpa using h⟩
  | cons k ks ih =>
    intro n S a9 a10 a11 h hn
    simp only [List.length_cons] at hn
    obtain ⟨b10, b11, S1, e, g1⟩ := parB_ok v (d0 := d0) (d2 := d2) (d3 := d3) (d4 := d4) (d5 := d5) (d9 := .pl k) (a10 := a10) (a11 := a11) h (by omega)
    obtain ⟨c9, c10, c11, S2, e2, g2⟩ := ih (n + 200) S1 (.pl k) b10 b11 g1 (by omega)
    refine ⟨c9, c10, c11, S2, ?_, by simp only [List.length_cons]; exact g2.mono (by omega)⟩
    rw [loop]
    simp only [x_setN, List.length_cons, List.length_nil]
    show (parB [d0, .pl (.ref 1), d2, d3, d4, d5, .pl (Rl ow gs), .pl (GL (coreL ow gs)), .pl (Rl ow (among gs (coreL ow gs))), .pl k, a10, a11, .no] S).bind _ = _
    rw [e]
    exact e2
end
noncomputable abbrev rndB : Fs := sSeq (sUnp (.tp [3, 4]) (eFn f_law_owners_and_names [] [eV 1]))
  (sSeq (sAsg 5 (eFn f_law_entries [] [eV 1, eV 3, eV 4, eC (.int 16)]))
  (sSeq (sAsg 6 (eFn f_law_make [] [eV 3, eV 5]))
  (sSeq (sAsg 7 (eFn f_core [] [eV 6]))
  (sSeq (sAsg 8 (eMeth f_Roll_only (eV 6) [eV 7]))
  (sSeq (sIf (tOr' (tB' (eB neS (eFn f_core [] [eV 8]) (eV 7))) (tNot' (tV (eFn f_law_is_same [] [eV 6, eV 8])))) (sRet (eC (.bl false))) (sNx))
  (sSeq (sIf (tB' (eB neS (eComp (.nm 12) (iVc 7) (tNot' (tV (eFn f_law_matters [] [eV 6, eV 12]))) (eV 12)) (eLst []))) (sRet (eC (.bl false))) (sNx))
  (sSeq (sIf (tOr' (tB' (eIsN true (eFn f_same_under_revoking [] [eV 6, eV 8]))) (tB' (eIsN true (eFn f_same_under_revoking [] [eV 8, eV 6])))) (sRet (eC (.bl false))) (sNx))
  (sSeq (sFor (.nm 9) (iRng1 [eC (.int 4)]) parB)
  (sIf (tB' (eB neS (eCall listS [eProp f_Roll_grants (eV 6)]) (eCall sortS [eV 5]))) (sRet (eC (.bl false))) (sNx))))))))))
theorem round_ok {n : Nat} {S : Ms} {d0 d2 : D} {e3 e4 e5 e6 e7 e8 e9 e10 e11 : Sl} (h : Gen n S) (hn : n ≤ 60000000) : ∃ (f3 f4 f5 f6 f7 f8 f9 f10 f11 : Sl) (S' : Ms),
    rndB [.pl d0, .pl (.ref 1), .pl d2, e3, e4, e5, e6, e7, e8, e9, e10, e11, .no] S = .ok (.nx [.pl d0, .pl (.ref 1), .pl d2, f3, f4, f5, f6, f7, f8, f9, f10, f11, .no]) S' ∧ Gen (n + 2000) S' := by
  obtain ⟨ow, ps, S1, e1, V, g1⟩ := names_ok h (by omega)
  obtain ⟨gs, S2, q2, okg, kg, ndg, lg, g2⟩ := entries_ok V (most := 16) g1 (by omega) (by omega) (by omega)
  have v : VRo ow gs := ⟨V.o1, V.o2, V.on, V.od, by omega, okg, fun g hg => V.dj _ (kg g hg).1, ndg⟩
  have m1 := law_make_ok v S2
  have c1 := core_ok v S2
  have lS : (sortG gs).length ≤ 60 := by rw [(sortG_perm gs).length_eq]; exact v.g1
  have Ug : ∀ x ∈ coreL ow gs, x ∈ gs := fun x hx => (mem_coreL.mp hx).1
  have lU : (coreL ow gs).length ≤ cap := Nat.le_trans (List.length_filter_le _ _) (by show _ ≤ 1000000; omega)
  have o1 := only_ok v Ug S2
  have vU := v.part (coreL ow gs)
  have c2 := core_ok vU S2
  have cp := core_part (ow := ow) v.gg v.gd (xs := coreL ow gs) (fun x hx => hx)
  rw [cp] at c2
  have same := is_same_ok v vU (fun x => steps_core (ow := ow) v.gg (fun y hy => hy) (fun y hy => (mem_among.mp hy).1) (fun y hy hc => mem_among.mpr ⟨hy, hc⟩) x) S2
  have ne : neS (GL (coreL ow gs)) (GL (coreL ow gs)) = some (.pl (.bl false)) := by
    rw [neS_GL (fun z hz => (v.gg z (Ug z hz)).s) (fun z hz => (v.gg z (Ug z hz)).s)]; simp
  have u1 := under_ok v vU (fun x hx => mem_among.mpr ⟨Ug x hx, hx⟩) (fun x hx => (mem_among.mp (mem_coreL.mp hx).1).1) S2
  have u2 := under_ok vU v (fun x hx => (mem_among.mp (mem_coreL.mp hx).1).1) (fun x hx => mem_among.mpr ⟨Ug x hx, hx⟩) S2
  have hcm := comp_typed (tg := .nm 12) (t := tNot' (tV (eFn f_law_matters [] [eV 6, eV 12]))) (f := eV 12) (δ := [.pl d0, .pl (.ref 1), .pl d2, .pl (NL ow), .pl (NL ps), .pl (GL gs), .pl (Rl ow gs), .pl (GL (coreL ow gs)), .pl (Rl ow (among gs (coreL ow gs))), e9, e10, e11, .no]) (S := S2) G (fun _ => false) G (coreL ow gs) fun y hy => by
    refine ⟨[.pl d0, .pl (.ref 1), .pl d2, .pl (NL ow), .pl (NL ps), .pl (GL gs), .pl (Rl ow gs), .pl (GL (coreL ow gs)), .pl (Rl ow (among gs (coreL ow gs))), e9, e10, e11, .pl (G y)], by simp, ?_, fun _ => ⟨.pl (G y), by simp, rfl⟩⟩
    simp [matters_ok v hy]
  rw [List.filter_eq_nil_iff.mpr (fun _ _ => by simp)] at hcm
  simp only [List.map_nil] at hcm
  have n0 : neS (.lst []) (.lst []) = some (.pl (.bl false)) := by
    have := neS_GL (x := []) (y := []) (fun z hz => by cases hz) (fun z hz => by cases hz)
    exact this.trans (by simp)
  obtain ⟨b9, b10, b11, S3, e3', g3⟩ := par_loop v (d0 := .pl d0) (d2 := .pl d2) (d3 := .pl (NL ow)) (d4 := .pl (NL ps)) (d5 := .pl (GL gs)) (rngD 0 4) _ S2 e9 e10 e11 g2 (by rw [show (rngD 0 4).length = 4 from rfl]; omega)
  rw [show (rngD 0 4).length = 4 from rfl] at g3
  have so1 : sortS [GL gs] = some (.own ((sortG gs).map G)) := sortS_GL (fun g hg => (v.gg g hg).s) (by show _ ≤ 1000000; omega)
  have ne1 : neS (GL (sortG gs)) (GL (sortG gs)) = some (.pl (.bl false)) := by
    rw [neS_GL (fun z m => (v.gg z (mem_sortG.mp m)).s) (fun z m => (v.gg z (mem_sortG.mp m)).s)]; simp
  have hgr := grants_ok ow gs
  refine ⟨.pl (NL ow), .pl (NL ps), .pl (GL gs), .pl (Rl ow gs), .pl (GL (coreL ow gs)), .pl (Rl ow (among gs (coreL ow gs))), b9, b10, b11, S3, ?_, g3.mono (by omega)⟩
  refine seq_ok (δ1 := [.pl d0, .pl (.ref 1), .pl d2, .pl (NL ow), .pl (NL ps), e5, e6, e7, e8, e9, e10, e11, .no]) (S1 := S1) (by simp [e1]) ?_
  refine seq_ok (δ1 := [.pl d0, .pl (.ref 1), .pl d2, .pl (NL ow), .pl (NL ps), .pl (GL gs), e6, e7, e8, e9, e10, e11, .no]) (S1 := S2) (by simp [q2]) ?_
  refine seq_ok (δ1 := [.pl d0, .pl (.ref 1), .pl d2, .pl (NL ow), .pl (NL ps), .pl (GL gs), .pl (Rl ow gs), e7, e8, e9, e10, e11, .no]) (S1 := S2) (by simp [m1]) ?_
  refine seq_ok (δ1 := [.pl d0, .pl (.ref 1), .pl d2, .pl (NL ow), .pl (NL ps), .pl (GL gs), .pl (Rl ow gs), .pl (GL (coreL ow gs)), e8, e9, e10, e11, .no]) (S1 := S2) (by simp [c1]) ?_
  refine seq_ok (δ1 := [.pl d0, .pl (.ref 1), .pl d2, .pl (NL ow), .pl (NL ps), .pl (GL gs), .pl (Rl ow gs), .pl (GL (coreL ow gs)), .pl (Rl ow (among gs (coreL ow gs))), e9, e10, e11, .no]) (S1 := S2) (by
    have : f_Roll_only (.pl (Rl ow gs) :: [.pl (GL (coreL ow gs))]) S2 = .ok (.pl (Rl ow (among gs (coreL ow gs)))) S2 := o1
    rw [x_sAsg, x_eMeth]
    simp only [x_rd, x_eV, List.getElem?_cons_succ, List.getElem?_cons_zero, rd1_pl, bind_ok]
    unfold Rl at this ⊢
    simp [this]) ?_
  generalize hRU : Rl ow (among gs (coreL ow gs)) = RU at *
  generalize hRR : Rl ow gs = RR at *
  generalize coreL ow gs = U at *
  refine seq_ok (δ1 := [.pl d0, .pl (.ref 1), .pl d2, .pl (NL ow), .pl (NL ps), .pl (GL gs), .pl RR, .pl (GL U), .pl RU, e9, e10, e11, .no]) (S1 := S2) (by simp [c2, ne, same]) ?_
  refine seq_ok (δ1 := [.pl d0, .pl (.ref 1), .pl d2, .pl (NL ow), .pl (NL ps), .pl (GL gs), .pl RR, .pl (GL U), .pl RU, e9, e10, e11, .no]) (S1 := S2) (by simp [lU, hcm, n0]) ?_
  refine seq_ok (δ1 := [.pl d0, .pl (.ref 1), .pl d2, .pl (NL ow), .pl (NL ps), .pl (GL gs), .pl RR, .pl (GL U), .pl RU, e9, e10, e11, .no]) (S1 := S2) (by simp [u1, u2]) ?_
  refine seq_ok (δ1 := [.pl d0, .pl (.ref 1), .pl d2, .pl (NL ow), .pl (NL ps), .pl (GL gs), .pl RR, .pl (GL U), .pl RU, b9, b10, b11, .no]) (S1 := S3) ?_ ?_
  · rw [x_sFor, x_iRng1]
    rw [show fA [eC (.int 4)] [.pl d0, .pl (.ref 1), .pl d2, .pl (NL ow), .pl (NL ps), .pl (GL gs), .pl RR, .pl (GL U), .pl RU, e9, e10, e11, .no] S2 = .ok [.pl (.int 4)] S2 from by simp]
    simp only [bind_ok]
    rw [if_pos (by decide)]
    exact e3'
  · simp [hgr, so1, ne1]
theorem rep_loop {d0 : D} : ∀ (ks : List D) (n : Nat) (S : Ms) (e2 e3 e4 e5 e6 e7 e8 e9 e10 e11 : Sl), Gen n S → n + 2000 * ks.length ≤ 60000000 → ∃ (f : Evm) (S' : Ms),
    loop (.nm 2) rndB ks [.pl d0, .pl (.ref 1), e2, e3, e4, e5, e6, e7, e8, e9, e10, e11, .no] S = .ok (.nx f) S' := by
  intro ks
  induction ks with
  | nil => exact fun n S e2 e3 e4 e5 e6 e7 e8 e9 e10 e11 _ _ => ⟨_, _, rfl⟩
  | cons k ks ih =>
    intro n S e2 e3 e4 e5 e6 e7 e8 e9 e10 e11 h hn
    simp only [List.length_cons] at hn
    obtain ⟨f3, f4, f5, f6, f7, f8, f9, f10, f11, S1, e, g1⟩ := round_ok (d0 := d0) (d2 := k) (e3 := e3) (e4 := e4) (e5 := e5) (e6 := e6) (e7 := e7) (e8 := e8) (e9 := e9) (e10 := e10) (e11 := e11) h (by omega)
    obtain ⟨f, S2, e'⟩ := ih (n + 2000) S1 (.pl k) f3 f4 f5 f6 f7 f8 f9 f10 f11 g1 (by omega)
    refine ⟨f, S2, ?_⟩
    rw [loop]
    simp only [x_setN, List.length_cons, List.length_nil]
    show (rndB [.pl d0, .pl (.ref 1), .pl k, e3, e4, e5, e6, e7, e8, e9, e10, e11, .no] S).bind _ = _
    rw [e]
    exact e'
theorem law_true (ns : List Int) (hl : ns.length ≤ 63) : ∃ S', f_law [.pl (.scr ns)] [] = .ok (.pl (.bl true)) S' := by
  obtain ⟨S1, e1, g1⟩ := law_source_ok ns hl
  obtain ⟨f, S2, e2⟩ := rep_loop (d0 := .scr ns) (rngD 0 4) 0 S1 .no .no .no .no .no .no .no .no .no .no g1 (by rw [show (rngD 0 4).length = 4 from rfl]; omega)
  refine ⟨S2, run_rt ?_⟩
  show b_law [.pl (.scr ns), .no, .no, .no, .no, .no, .no, .no, .no, .no, .no, .no, .no] [] = _
  unfold b_law
  refine seq_ok (δ1 := [.pl (.scr ns), .pl (.ref 1), .no, .no, .no, .no, .no, .no, .no, .no, .no, .no, .no]) (S1 := S1) (by simp [e1]) ?_
  refine seq_ok (δ1 := f) (S1 := S2) ?_ rfl
  rw [x_sFor, x_iRng1]
  rw [show fA [eC (.int 4)] [.pl (.scr ns), .pl (.ref 1), .no, .no, .no, .no, .no, .no, .no, .no, .no, .no, .no] S1 = .ok [.pl (.int 4)] S1 from by simp]
  simp only [bind_ok]
  rw [if_pos (by decide)]
  exact e2
end Gt
set_option Elab.async false
set_option linter.all false
set_option maxRecDepth 100000
set_option maxHeartbeats 4000000
namespace Gt
open PySem PySem.Spec PyProof.Rows L2 RZ StX
def top (i : Nat) : Stmt := PySem.Challenge.pw_grantroll_k85_whole_idle_grants.main.body.getD i (.Pass ⟨0, 0, 0, 0⟩)
abbrev s_law_source : Stmt := top 55
abbrev s_law_draw : Stmt := top 56
abbrev s_law_word : Stmt := top 59
abbrev s_law_shuffle : Stmt := top 58
abbrev s_law_owners_and_names : Stmt := top 60
abbrev s_law_pick : Stmt := top 57
abbrev s_law_entries : Stmt := top 61
abbrev s_is_name : Stmt := top 15
abbrev s_is_integer : Stmt := top 14
abbrev s_is_time : Stmt := top 16
abbrev s_is_level : Stmt := top 17
abbrev s_is_passes : Stmt := top 18
abbrev s_grant_error : Stmt := top 19
abbrev s_roll_error : Stmt := top 24
abbrev s_Roll_init : Stmt := inClass (top 34) 1
abbrev s_law_make : Stmt := top 62
abbrev s_Roll_grants : Stmt := inClass (top 34) 3
abbrev s_is_support : Stmt := top 20
abbrev s_counts_in : Stmt := top 36
abbrev s_Roll_owners : Stmt := inClass (top 34) 2
abbrev s_rest_for : Stmt := top 46
abbrev s_is_useful : Stmt := top 47
abbrev s_core : Stmt := top 48
abbrev s_Roll_contains : Stmt := inClass (top 34) 6
abbrev s_check_member : Stmt := top 26
abbrev s_check_members : Stmt := top 25
abbrev s_Roll_only : Stmt := inClass (top 34) 11
abbrev s_Roll_persons : Stmt := inClass (top 34) 4
abbrev s_check_name : Stmt := top 27
abbrev s_counting_grants : Stmt := top 38
abbrev s_taken : Stmt := top 42
abbrev s_covers : Stmt := top 40
abbrev s_maximal : Stmt := top 41
abbrev s_powers_in : Stmt := top 43
abbrev s_steps_of : Stmt := top 44
abbrev s_law_is_same : Stmt := top 63
abbrev s_chain_in : Stmt := top 37
abbrev s_useful_paper : Stmt := top 49
abbrev s_law_matters : Stmt := top 64
abbrev s_check_owners_cores : Stmt := top 50
abbrev s_gives_no_more : Stmt := top 52
abbrev s_same_under_revoking : Stmt := top 53
abbrev s_law : Stmt := top 65
structure Tx (K : PySem.W.Frag) (mg : Str → Option Value) : Prop where
  n_abs : mg "abs" = none
  n_all : mg "all" = none
  n_any : mg "any" = none
  n_bool : mg "bool" = none
  n_enumerate : mg "enumerate" = none
  n_int : mg "int" = none
  n_isinstance : mg "isinstance" = none
  n_len : mg "len" = none
  n_list : mg "list" = none
  n_min : mg "min" = none
  n_range : mg "range" = none
  n_set : mg "set" = none
  n_sorted : mg "sorted" = none
  n_str : mg "str" = none
  n_tuple : mg "tuple" = none
  i_LETTERS : ∃ t, mg "LETTERS" = some (.str (Str.ofString "abcdefghijklmnopqrstuvwxyz") t)
  i_MAX_LEVEL : ∃ t, mg "MAX_LEVEL" = some (.int (9) t)
  i_MAX_NAME : ∃ t, mg "MAX_NAME" = some (.int (8) t)
  i_MAX_OWNERS : ∃ t, mg "MAX_OWNERS" = some (.int (4) t)
  i_MAX_PASSES : ∃ t, mg "MAX_PASSES" = some (.int (20) t)
  i_MAX_TIME : ∃ t, mg "MAX_TIME" = some (.int (1000000000000000000000000000000) t)
  g_law_source : mg "_law_source" = some (.ref (He.ga K "_law_source"))
  e_law_source : ∃ fd, L2.FunD K "_law_source" "_law_source" (defArgs s_law_source) (defBody s_law_source) (defScope s_law_source) [] [] (He.ga K "_law_source") fd
  g_law_draw : mg "_law_draw" = some (.ref (He.ga K "_law_draw"))
  e_law_draw : ∃ fd, L2.FunD K "_law_draw" "_law_draw" (defArgs s_law_draw) (defBody s_law_draw) (defScope s_law_draw) [] [] (He.ga K "_law_draw") fd
  g_law_word : mg "_law_word" = some (.ref (He.ga K "_law_word"))
  e_law_word : ∃ fd, L2.FunD K "_law_word" "_law_word" (defArgs s_law_word) (defBody s_law_word) (defScope s_law_word) [] [] (He.ga K "_law_word") fd
  g_law_shuffle : mg "_law_shuffle" = some (.ref (He.ga K "_law_shuffle"))
  e_law_shuffle : ∃ fd, L2.FunD K "_law_shuffle" "_law_shuffle" (defArgs s_law_shuffle) (defBody s_law_shuffle) (defScope s_law_shuffle) [] [] (He.ga K "_law_shuffle") fd
  g_law_owners_and_names : mg "_law_owners_and_names" = some (.ref (He.ga K "_law_owners_and_names"))
  e_law_owners_and_names : ∃ fd, L2.FunD K "_law_owners_and_names" "_law_owners_and_names" (defArgs s_law_owners_and_names) (defBody s_law_owners_and_names) (defScope s_law_owners_and_names) [] [] (He.ga K "_law_owners_and_names") fd
  g_law_pick : mg "_law_pick" = some (.ref (He.ga K "_law_pick"))
  e_law_pick : ∃ fd, L2.FunD K "_law_pick" "_law_pick" (defArgs s_law_pick) (defBody s_law_pick) (defScope s_law_pick) [] [] (He.ga K "_law_pick") fd
  g_law_entries : mg "_law_entries" = some (.ref (He.ga K "_law_entries"))
  e_law_entries : ∃ fd, L2.FunD K "_law_entries" "_law_entries" (defArgs s_law_entries) (defBody s_law_entries) (defScope s_law_entries) [] [] (He.ga K "_law_entries") fd
  g_is_name : mg "is_name" = some (.ref (He.ga K "is_name"))
  e_is_name : ∃ fd, L2.FunD K "is_name" "is_name" (defArgs s_is_name) (defBody s_is_name) (defScope s_is_name) [] [] (He.ga K "is_name") fd
  g_is_integer : mg "is_integer" = some (.ref (He.ga K "is_integer"))
  e_is_integer : ∃ fd, L2.FunD K "is_integer" "is_integer" (defArgs s_is_integer) (defBody s_is_integer) (defScope s_is_integer) [] [] (He.ga K "is_integer") fd
  g_is_time : mg "is_time" = some (.ref (He.ga K "is_time"))
  e_is_time : ∃ fd, L2.FunD K "is_time" "is_time" (defArgs s_is_time) (defBody s_is_time) (defScope s_is_time) [] [] (He.ga K "is_time") fd
  g_is_level : mg "is_level" = some (.ref (He.ga K "is_level"))
  e_is_level : ∃ fd, L2.FunD K "is_level" "is_level" (defArgs s_is_level) (defBody s_is_level) (defScope s_is_level) [] [] (He.ga K "is_level") fd
  g_is_passes : mg "is_passes" = some (.ref (He.ga K "is_passes"))
  e_is_passes : ∃ fd, L2.FunD K "is_passes" "is_passes" (defArgs s_is_passes) (defBody s_is_passes) (defScope s_is_passes) [] [] (He.ga K "is_passes") fd
  g_grant_error : mg "grant_error" = some (.ref (He.ga K "grant_error"))
  e_grant_error : ∃ fd, L2.FunD K "grant_error" "grant_error" (defArgs s_grant_error) (defBody s_grant_error) (defScope s_grant_error) [] [] (He.ga K "grant_error") fd
  g_roll_error : mg "roll_error" = some (.ref (He.ga K "roll_error"))
  e_roll_error : ∃ fd, L2.FunD K "roll_error" "roll_error" (defArgs s_roll_error) (defBody s_roll_error) (defScope s_roll_error) [] [] (He.ga K "roll_error") fd
  e_Roll_init : ∃ fd, L2.FunD K "__init__" "Roll.__init__" (defArgs s_Roll_init) (defBody s_Roll_init) (defScope s_Roll_init) [] [] (He.ma K (He.ga K "Roll") "__init__") fd
  g_law_make : mg "_law_make" = some (.ref (He.ga K "_law_make"))
  e_law_make : ∃ fd, L2.FunD K "_law_make" "_law_make" (defArgs s_law_make) (defBody s_law_make) (defScope s_law_make) [] [] (He.ga K "_law_make") fd
  e_Roll_grants : ∃ fd, L2.FunD K "grants" "Roll.grants" (defArgs s_Roll_grants) (defBody s_Roll_grants) (defScope s_Roll_grants) [] [] (pgA "Roll" "grants" K) fd
  g_is_support : mg "is_support" = some (.ref (He.ga K "is_support"))
  e_is_support : ∃ fd, L2.FunD K "is_support" "is_support" (defArgs s_is_support) (defBody s_is_support) (defScope s_is_support) [] [] (He.ga K "is_support") fd
  g_counts_in : mg "counts_in" = some (.ref (He.ga K "counts_in"))
  e_counts_in : ∃ fd, L2.FunD K "counts_in" "counts_in" (defArgs s_counts_in) (defBody s_counts_in) (defScope s_counts_in) [] [] (He.ga K "counts_in") fd
  e_Roll_owners : ∃ fd, L2.FunD K "owners" "Roll.owners" (defArgs s_Roll_owners) (defBody s_Roll_owners) (defScope s_Roll_owners) [] [] (pgA "Roll" "owners" K) fd
  g_rest_for : mg "rest_for" = some (.ref (He.ga K "rest_for"))
  e_rest_for : ∃ fd, L2.FunD K "rest_for" "rest_for" (defArgs s_rest_for) (defBody s_rest_for) (defScope s_rest_for) [] [] (He.ga K "rest_for") fd
  g_is_useful : mg "is_useful" = some (.ref (He.ga K "is_useful"))
  e_is_useful : ∃ fd, L2.FunD K "is_useful" "is_useful" (defArgs s_is_useful) (defBody s_is_useful) (defScope s_is_useful) [] [] (He.ga K "is_useful") fd
  g_core : mg "core" = some (.ref (He.ga K "core"))
  e_core : ∃ fd, L2.FunD K "core" "core" (defArgs s_core) (defBody s_core) (defScope s_core) [] [] (He.ga K "core") fd
  e_Roll_contains : ∃ fd, L2.FunD K "__contains__" "Roll.__contains__" (defArgs s_Roll_contains) (defBody s_Roll_contains) (defScope s_Roll_contains) [] [] (He.ma K (He.ga K "Roll") "__contains__") fd
  g_check_member : mg "check_member" = some (.ref (He.ga K "check_member"))
  e_check_member : ∃ fd, L2.FunD K "check_member" "check_member" (defArgs s_check_member) (defBody s_check_member) (defScope s_check_member) [] [] (He.ga K "check_member") fd
  g_check_members : mg "check_members" = some (.ref (He.ga K "check_members"))
  e_check_members : ∃ fd, L2.FunD K "check_members" "check_members" (defArgs s_check_members) (defBody s_check_members) (defScope s_check_members) [] [] (He.ga K "check_members") fd
  e_Roll_only : ∃ fd, L2.FunD K "only" "Roll.only" (defArgs s_Roll_only) (defBody s_Roll_only) (defScope s_Roll_only) [] [] (He.ma K (He.ga K "Roll") "only") fd
  e_Roll_persons : ∃ fd, L2.FunD K "persons" "Roll.persons" (defArgs s_Roll_persons) (defBody s_Roll_persons) (defScope s_Roll_persons) [] [] (pgA "Roll" "persons" K) fd
  g_check_name : mg "check_name" = some (.ref (He.ga K "check_name"))
  e_check_name : ∃ fd, L2.FunD K "check_name" "check_name" (defArgs s_check_name) (defBody s_check_name) (defScope s_check_name) [] [] (He.ga K "check_name") fd
  g_counting_grants : mg "counting_grants" = some (.ref (He.ga K "counting_grants"))
  e_counting_grants : ∃ fd, L2.FunD K "counting_grants" "counting_grants" (defArgs s_counting_grants) (defBody s_counting_grants) (defScope s_counting_grants) [] [] (He.ga K "counting_grants") fd
  g_taken : mg "taken" = some (.ref (He.ga K "taken"))
  e_taken : ∃ fd, L2.FunD K "taken" "taken" (defArgs s_taken) (defBody s_taken) (defScope s_taken) [] [] (He.ga K "taken") fd
  g_covers : mg "covers" = some (.ref (He.ga K "covers"))
  e_covers : ∃ fd, L2.FunD K "covers" "covers" (defArgs s_covers) (defBody s_covers) (defScope s_covers) [] [] (He.ga K "covers") fd
  g_maximal : mg "maximal" = some (.ref (He.ga K "maximal"))
  e_maximal : ∃ fd, L2.FunD K "maximal" "maximal" (defArgs s_maximal) (defBody s_maximal) (defScope s_maximal) [] [] (He.ga K "maximal") fd
  g_powers_in : mg "powers_in" = some (.ref (He.ga K "powers_in"))
  e_powers_in : ∃ fd, L2.FunD K "powers_in" "powers_in" (defArgs s_powers_in) (defBody s_powers_in) (defScope s_powers_in) [] [] (He.ga K "powers_in") fd
  g_steps_of : mg "steps_of" = some (.ref (He.ga K "steps_of"))
  e_steps_of : ∃ fd, L2.FunD K "steps_of" "steps_of" (defArgs s_steps_of) (defBody s_steps_of) (defScope s_steps_of) [] [] (He.ga K "steps_of") fd
  g_law_is_same : mg "_law_is_same" = some (.ref (He.ga K "_law_is_same"))
  e_law_is_same : ∃ fd, L2.FunD K "_law_is_same" "_law_is_same" (defArgs s_law_is_same) (defBody s_law_is_same) (defScope s_law_is_same) [] [] (He.ga K "_law_is_same") fd
  g_chain_in : mg "chain_in" = some (.ref (He.ga K "chain_in"))
  e_chain_in : ∃ fd, L2.FunD K "chain_in" "chain_in" (defArgs s_chain_in) (defBody s_chain_in) (defScope s_chain_in) [] [] (He.ga K "chain_in") fd
  g_useful_paper : mg "useful_paper" = some (.ref (He.ga K "useful_paper"))
  e_useful_paper : ∃ fd, L2.FunD K "useful_paper" "useful_paper" (defArgs s_useful_paper) (defBody s_useful_paper) (defScope s_useful_paper) [] [] (He.ga K "useful_paper") fd
  g_law_matters : mg "_law_matters" = some (.ref (He.ga K "_law_matters"))
  e_law_matters : ∃ fd, L2.FunD K "_law_matters" "_law_matters" (defArgs s_law_matters) (defBody s_law_matters) (defScope s_law_matters) [] [] (He.ga K "_law_matters") fd
  g_check_owners_cores : mg "check_owners_cores" = some (.ref (He.ga K "check_owners_cores"))
  e_check_owners_cores : ∃ fd, L2.FunD K "check_owners" "check_owners" (defArgs s_check_owners_cores) (defBody s_check_owners_cores) (defScope s_check_owners_cores) [] [] (He.ga K "check_owners_cores") fd
  g_gives_no_more : mg "gives_no_more" = some (.ref (He.ga K "gives_no_more"))
  e_gives_no_more : ∃ fd, L2.FunD K "gives_no_more" "gives_no_more" (defArgs s_gives_no_more) (defBody s_gives_no_more) (defScope s_gives_no_more) [] [] (He.ga K "gives_no_more") fd
  g_same_under_revoking : mg "same_under_revoking" = some (.ref (He.ga K "same_under_revoking"))
  e_same_under_revoking : ∃ fd, L2.FunD K "same_under_revoking" "same_under_revoking" (defArgs s_same_under_revoking) (defBody s_same_under_revoking) (defScope s_same_under_revoking) [] [] (He.ga K "same_under_revoking") fd
  e_law : ∃ fd, L2.FunD K "law" "law" (defArgs s_law) (defBody s_law) (defScope s_law) [] [] (He.ga K "law") fd
  g_Roll : mg "Roll" = some (.ref (cA K 0))
  cl_Roll : Cls K (cA K 0)
  mk_Roll : Mk K (cA K 0) (He.ma K (He.ga K "Roll") "__init__")
  na_own : NoAttr K (cA K 0) "own"
  na_made : NoAttr K (cA K 0) "made"
  pr_grants : PropOf K (cA K 0) "grants" (He.ma K (He.ga K "Roll") "grants") (pgA "Roll" "grants" K)
  pr_owners : PropOf K (cA K 0) "owners" (He.ma K (He.ga K "Roll") "owners") (pgA "Roll" "owners" K)
  pr_persons : PropOf K (cA K 0) "persons" (He.ma K (He.ga K "Roll") "persons") (pgA "Roll" "persons" K)
  oc_contains : PySem.W.findIn K (.ref (cA K 0)) "__contains__" = some (some (.ref (He.ma K (He.ga K "Roll") "__contains__")))
  of_contains : PySem.W.isFn K (.ref (He.ma K (He.ga K "Roll") "__contains__")) = true
  me_only : Meth K (cA K 0) "only" (He.ma K (He.ga K "Roll") "only")
  cr_Roll : ClX.CRead K (cA K 0) (.type "type")
  cv_most : ∃ u, ClX.CVal K (cA K 0) (.type "type") "MOST_GRANTS" (.int 60) u
section
variable {P : Program} {w : World} {K : PySem.W.Frag} {mg : Str → Option Value} {base : Heap}
theorem sc_law_source : FnScope ["script", "cells", "k"] ["script"] (defScope s_law_source) := ⟨rfl, rfl, rfl, by decide +kernel, rfl, by decide +kernel, by decide +kernel⟩
theorem ok_law_source (T : Tx K mg) {f : Addr} {fd : FuncData} (F : L2.FunD K "_law_source" "_law_source" (defArgs s_law_source) (defBody s_law_source) (defScope s_law_source) [] [] f fd) : FnOk P w K mg base (L2.CX P w) 1 f fd ["script"] (spF K 1 f_law_source) := by
  refine fn_ok F sc_law_source (by decide) fun cdv A outer s H E hr => ?_
  have nd := sc_law_source.nd
  exact (ss_cons (ss_own (i := 1) (ps_set (i := 1) nd rfl (by first | exact Or.inl rfl | exact Or.inr rfl) (se_sl (se_var 0 (pv 0)) so_none (so_some se_int))))
  (ss_cons (ss_for (g := .nm 2) (passes_of rfl) rfl (si_rng1 (by exact rfl) T.n_range (sa_cons (se_call call_len g_len (by exact rfl) T.n_len PySem.boot_len (sa_cons (se_var 1 (pv 1)) sa_nil)) sa_nil)) (pg_name (i := 2) nd rfl (by first | exact Or.inl rfl | exact Or.inr rfl)) (ss_one (ss_if (st_cmp (op_geD hr.units) g_ge (se_call call_abs g_abs (by exact rfl) T.n_abs (by decide +kernel) (sa_cons (se_ix (se_var 1 (pv 1)) (se_var 2 (pv 2)) fun _ _ => rfl) sa_nil)) (se_op op_powA g_pow se_int se_int) (nomark _)) (ss_one (ss_put (se_op op_mod g_mod (se_callTy call_intAny g_int' rfl T.n_int (by decide +kernel) (sa_cons (se_ix (se_var 1 (pv 1)) (se_var 2 (pv 2)) fun _ _ => rfl) sa_nil)) (se_op op_powA g_pow (se_op op_powA g_pow se_int se_int) se_int)) (pv 1) (se_var 2 (pv 2)))) ss_nil)))
  (ss_cons (ss_if (st_cmp (op_eqA hr.units) g_eq (se_var 1 (pv 1)) (se_lst sa_nil) (nomark _)) (ss_one (ss_own (i := 1) (ps_set (i := 1) nd rfl (by first | exact Or.inl rfl | exact Or.inr rfl) (se_lst (sa_cons se_int sa_nil))))) ss_nil)
  (ss_one (ss_retSrc (pv 1))))))
theorem sc_law_draw : FnScope ["source", "limit", "cells", "turn", "place", "cell", "number", "other"] ["source", "limit"] (defScope s_law_draw) := ⟨rfl, rfl, rfl, by decide +kernel, rfl, by decide +kernel, by decide +kernel⟩
theorem ok_law_draw (T : Tx K mg) {f : Addr} {fd : FuncData} (F : L2.FunD K "_law_draw" "_law_draw" (defArgs s_law_draw) (defBody s_law_draw) (defScope s_law_draw) [] [] f fd) : FnOk P w K mg base (L2.CX P w) 1 f fd ["source", "limit"] (spF K 2 f_law_draw) := by
  refine fn_ok F sc_law_draw (by decide) fun cdv A outer s H E hr => ?_
  have nd := sc_law_draw.nd
  exact (ss_cons (ss_unpM (is := [2, 3]) (pv 0) (pg_lst rfl (pgs_cons (pg_name (i := 2) nd rfl (by first | exact Or.inl rfl | exact Or.inr rfl)) (pgs_cons (pg_name (i := 3) nd rfl (by first | exact Or.inl rfl | exact Or.inr rfl)) pgs_nil))))
  (ss_cons (ss_asg (i := 4) (ps_set (i := 4) nd rfl (by first | exact Or.inl rfl | exact Or.inr rfl) (se_op op_mod g_mod (se_callTy call_intAny g_int' rfl T.n_int (by decide +kernel) (sa_cons (se_var 3 (pv 3)) sa_nil)) (se_lenM (pv 2) (by exact rfl) T.n_len))))
  (ss_cons (ss_asg (i := 5) (ps_set (i := 5) nd rfl (by first | exact Or.inl rfl | exact Or.inr rfl) (se_ixM (pv 2) (se_var 4 (pv 4)) fun _ _ => rfl)))
  (ss_cons (ss_put (se_op op_addAny g_add (se_var 3 (pv 3)) se_int) (pv 0) se_int)
  (ss_cons (ss_if (st_cmp (op_geD hr.units) g_ge (se_var 5 (pv 5)) (se_op op_powA g_pow se_int se_int) (nomark _)) (ss_cons (ss_put (se_op op_fdivW g_fdiv (se_var 5 (pv 5)) (se_var 1 (pv 1))) (pv 2) (se_var 4 (pv 4)))
  (ss_one (ss_ret (se_op op_mod g_mod (se_callTy call_intAny g_int' rfl T.n_int (by decide +kernel) (sa_cons (se_var 5 (pv 5)) sa_nil)) (se_var 1 (pv 1)))))) ss_nil)
  (ss_cons (ss_asg (i := 6) (ps_set (i := 6) nd rfl (by first | exact Or.inl rfl | exact Or.inr rfl) (se_op op_mod g_mod (se_callTy call_intAny g_int' rfl T.n_int (by decide +kernel) (sa_cons (se_op op_addAny g_add (se_op op_addAny g_add (se_op op_mulAny g_mul (se_op op_mod g_mod (se_callTy call_intAny g_int' rfl T.n_int (by decide +kernel) (sa_cons (se_var 5 (pv 5)) sa_nil)) se_int) se_int) (se_op op_mulAny g_mul (se_op op_mulAny g_mul (se_var 3 (pv 3)) (se_var 3 (pv 3))) se_int)) se_int) sa_nil)) se_int)))
  (ss_cons (ss_asg (i := 6) (ps_set (i := 6) nd rfl (by first | exact Or.inl rfl | exact Or.inr rfl) (se_op op_mod g_mod (se_callTy call_intAny g_int' rfl T.n_int (by decide +kernel) (sa_cons (se_op op_mulAny g_mul (se_var 6 (pv 6)) (se_var 6 (pv 6))) sa_nil)) se_int)))
  (ss_cons (ss_asg (i := 6) (ps_set (i := 6) nd rfl (by first | exact Or.inl rfl | exact Or.inr rfl) (se_op op_mod g_mod (se_callTy call_intAny g_int' rfl T.n_int (by decide +kernel) (sa_cons (se_op op_mulAny g_mul (se_var 6 (pv 6)) (se_var 6 (pv 6))) sa_nil)) se_int)))
  (ss_cons (ss_if (st_cmp (op_gtD hr.units) g_gt (se_var 1 (pv 1)) (se_op op_powA g_pow se_int se_int) (nomark _)) (ss_cons (ss_asg (i := 7) (ps_set (i := 7) nd rfl (by first | exact Or.inl rfl | exact Or.inr rfl) (se_op op_mod g_mod (se_callTy call_intAny g_int' rfl T.n_int (by decide +kernel) (sa_cons (se_op op_addAny g_add (se_op op_addAny g_add (se_op op_mulAny g_mul (se_var 6 (pv 6)) se_int) (se_op op_mulAny g_mul (se_var 3 (pv 3)) se_int)) se_int) sa_nil)) se_int)))
  (ss_one (ss_asg (i := 6) (ps_set (i := 6) nd rfl (by first | exact Or.inl rfl | exact Or.inr rfl) (se_op op_mulAny g_mul (se_var 6 (pv 6)) (se_op op_addAny g_add (se_op op_mulAny g_mul (se_op op_mulAny g_mul (se_var 7 (pv 7)) (se_var 7 (pv 7))) (se_var 7 (pv 7))) se_int)))))) ss_nil)
  (ss_one (ss_ret (se_op op_mod g_mod (se_callTy call_intAny g_int' rfl T.n_int (by decide +kernel) (sa_cons (se_var 6 (pv 6)) sa_nil)) (se_var 1 (pv 1))))))))))))))
theorem sc_law_word : FnScope ["source", "size", "k"] ["source", "size"] (defScope s_law_word) := ⟨rfl, rfl, rfl, by decide +kernel, rfl, by decide +kernel, by decide +kernel⟩
theorem ok_law_word (T : Tx K mg) {f : Addr} {fd : FuncData} (F : L2.FunD K "_law_word" "_law_word" (defArgs s_law_word) (defBody s_law_word) (defScope s_law_word) [] [] f fd) : FnOk P w K mg base (L2.CX P w) 2 f fd ["source", "size"] (spF K 2 f_law_word) := by
  obtain ⟨fd_law_draw, F_law_draw⟩ := T.e_law_draw
  have G_law_draw : FnOk P w K mg base (L2.CX P w) 1 _ fd_law_draw ["source", "limit"] (spF K 2 f_law_draw) := ok_law_draw T F_law_draw
  have b_law_draw : Binds K fd_law_draw ["source", "limit"] [] := F_law_draw.bindsN fun _ _ _ _ _ _ us hl => match us, hl with | [_, _], _ => rfl
  refine fn_ok F sc_law_word (by decide) fun cdv A outer s H E hr => ?_
  have nd := sc_law_word.nd
  exact (ss_one (ss_ret (se_join se_str (se_comp (own := [("k", 2)]) (g := .nm 2) (by exact rfl) nd (si_rng1 (by exact rfl) T.n_range (sa_cons (se_var 1 (pv 1)) sa_nil)) (blkOk_by (N := ["source", "size", "k"]) (sc := defScope s_law_word) (own := [("k", 2)]) (by decide +kernel)) rfl (fun _ _ _ _ _ => (pg_name (i := 2) nd rfl (by first | exact Or.inl rfl | exact Or.inr rfl))) (fun _ _ _ _ _ => pts_yes) (fun _ _ _ _ _ => (se_ix se_str (se_fn G_law_draw (hr.mono (by decide)) (by exact rfl) T.g_law_draw F_law_draw.kp b_law_draw .nil .nil rfl takes0 (sa_cons (se_var 0 (pv 0)) (sa_cons se_int sa_nil))) fun _ _ => rfl))))))
theorem sc_law_shuffle : FnScope ["source", "values", "result", "value"] ["source", "values"] (defScope s_law_shuffle) := ⟨rfl, rfl, rfl, by decide +kernel, rfl, by decide +kernel, by decide +kernel⟩
theorem ok_law_shuffle (T : Tx K mg) {f : Addr} {fd : FuncData} (F : L2.FunD K "_law_shuffle" "_law_shuffle" (defArgs s_law_shuffle) (defBody s_law_shuffle) (defScope s_law_shuffle) [] [] f fd) : FnOk P w K mg base (L2.CX P w) 2 f fd ["source", "values"] (spF K 2 f_law_shuffle) := by
  obtain ⟨fd_law_draw, F_law_draw⟩ := T.e_law_draw
  have G_law_draw : FnOk P w K mg base (L2.CX P w) 1 _ fd_law_draw ["source", "limit"] (spF K 2 f_law_draw) := ok_law_draw T F_law_draw
  have b_law_draw : Binds K fd_law_draw ["source", "limit"] [] := F_law_draw.bindsN fun _ _ _ _ _ _ us hl => match us, hl with | [_, _], _ => rfl
  refine fn_ok F sc_law_shuffle (by decide) fun cdv A outer s H E hr => ?_
  have nd := sc_law_shuffle.nd
  exact (ss_cons (ss_own (i := 2) (ps_set (i := 2) nd rfl (by first | exact Or.inl rfl | exact Or.inr rfl) (se_lst sa_nil)))
  (ss_cons (ss_for (g := .nm 3) (passes_of rfl) rfl (si_v (pv 1)) (pg_name (i := 3) nd rfl (by first | exact Or.inl rfl | exact Or.inr rfl)) (ss_one (ss_ins (i := 2) (ps_expr (pe_bm PySem.F.plainAttrs_list PySem.F.slot_list_insert PySem.F.type_list_insert mt_insert (pv 2) (pa_cons (se_fn G_law_draw (hr.mono (by decide)) (by exact rfl) T.g_law_draw F_law_draw.kp b_law_draw .nil .nil rfl (takes_of rfl rfl rfl rfl) (sa_cons (se_var 0 (pv 0)) (sa_cons (se_op op_addAny g_add (se_call call_len g_len (by exact rfl) T.n_len PySem.boot_len (sa_cons (se_var 2 (pv 2)) sa_nil)) se_int) sa_nil))) (pa_cons (se_var 3 (pv 3)) pa_nil)))))))
  (ss_one (ss_retV (pv 2)))))
theorem sc_law_owners_and_names : FnScope ["source", "names", "count"] ["source"] (defScope s_law_owners_and_names) := ⟨rfl, rfl, rfl, by decide +kernel, rfl, by decide +kernel, by decide +kernel⟩
theorem ok_law_owners_and_names (T : Tx K mg) {f : Addr} {fd : FuncData} (F : L2.FunD K "_law_owners_and_names" "_law_owners_and_names" (defArgs s_law_owners_and_names) (defBody s_law_owners_and_names) (defScope s_law_owners_and_names) [] [] f fd) : FnOk P w K mg base (L2.CX P w) 3 f fd ["source"] (spF K 1 f_law_owners_and_names) := by
  obtain ⟨fd_law_word, F_law_word⟩ := T.e_law_word
  have G_law_word : FnOk P w K mg base (L2.CX P w) 2 _ fd_law_word ["source", "size"] (spF K 2 f_law_word) := ok_law_word T F_law_word
  have b_law_word : Binds K fd_law_word ["source", "size"] [] := F_law_word.bindsN fun _ _ _ _ _ _ us hl => match us, hl with | [_, _], _ => rfl
  obtain ⟨fd_law_draw, F_law_draw⟩ := T.e_law_draw
  have G_law_draw : FnOk P w K mg base (L2.CX P w) 1 _ fd_law_draw ["source", "limit"] (spF K 2 f_law_draw) := ok_law_draw T F_law_draw
  have b_law_draw : Binds K fd_law_draw ["source", "limit"] [] := F_law_draw.bindsN fun _ _ _ _ _ _ us hl => match us, hl with | [_, _], _ => rfl
  obtain ⟨fd_law_shuffle, F_law_shuffle⟩ := T.e_law_shuffle
  have G_law_shuffle : FnOk P w K mg base (L2.CX P w) 2 _ fd_law_shuffle ["source", "values"] (spF K 2 f_law_shuffle) := ok_law_shuffle T F_law_shuffle
  have b_law_shuffle : Binds K fd_law_shuffle ["source", "values"] [] := F_law_shuffle.bindsN fun _ _ _ _ _ _ us hl => match us, hl with | [_, _], _ => rfl
  refine fn_ok F sc_law_owners_and_names (by decide) fun cdv A outer s H E hr => ?_
  have nd := sc_law_owners_and_names.nd
  exact (ss_cons (ss_asg (i := 1) (ps_set (i := 1) nd rfl (by first | exact Or.inl rfl | exact Or.inr rfl) (se_lst (sa_cons se_str (sa_cons se_str (sa_cons se_str (sa_cons se_str (sa_cons se_str (sa_cons se_str (sa_cons se_str (sa_cons se_str (sa_cons se_str sa_nil))))))))))))
  (ss_cons (ss_asg (i := 1) (ps_set (i := 1) nd rfl (by first | exact Or.inl rfl | exact Or.inr rfl) (se_op op_addAny g_add (se_var 1 (pv 1)) (se_lst (sa_cons (se_fn G_law_word (hr.mono (by decide)) (by exact rfl) T.g_law_word F_law_word.kp b_law_word .nil .nil rfl (takes_of rfl rfl rfl rfl) (sa_cons (se_var 0 (pv 0)) (sa_cons (se_op op_addAny g_add se_int (se_fn G_law_draw (hr.mono (by decide)) (by exact rfl) T.g_law_draw F_law_draw.kp b_law_draw .nil .nil rfl (takes_of rfl rfl rfl rfl) (sa_cons (se_var 0 (pv 0)) (sa_cons se_int sa_nil)))) sa_nil))) (sa_cons (se_fn G_law_word (hr.mono (by decide)) (by exact rfl) T.g_law_word F_law_word.kp b_law_word .nil .nil rfl (takes_of rfl rfl rfl rfl) (sa_cons (se_var 0 (pv 0)) (sa_cons se_int sa_nil))) sa_nil))))))
  (ss_cons (ss_asg (i := 1) (ps_set (i := 1) nd rfl (by first | exact Or.inl rfl | exact Or.inr rfl) (se_fn G_law_shuffle (hr.mono (by decide)) (by exact rfl) T.g_law_shuffle F_law_shuffle.kp b_law_shuffle .nil .nil rfl (takes_of rfl rfl rfl rfl) (sa_cons (se_var 0 (pv 0)) (sa_cons (se_var 1 (pv 1)) sa_nil)))))
  (ss_cons (ss_asg (i := 2) (ps_set (i := 2) nd rfl (by first | exact Or.inl rfl | exact Or.inr rfl) (se_op op_addAny g_add se_int (se_fn G_law_draw (hr.mono (by decide)) (by exact rfl) T.g_law_draw F_law_draw.kp b_law_draw .nil .nil rfl (takes_of rfl rfl rfl rfl) (sa_cons (se_var 0 (pv 0)) (sa_cons se_int sa_nil))))))
  (ss_one (ss_ret (se_tup (sa_cons (se_sl (se_var 1 (pv 1)) so_none (so_some (se_var 2 (pv 2)))) (sa_cons (se_sl (se_var 1 (pv 1)) (so_some (se_var 2 (pv 2))) (so_some (se_op op_addAny g_add (se_op op_addAny g_add (se_var 2 (pv 2)) se_int) (se_fn G_law_draw (hr.mono (by decide)) (by exact rfl) T.g_law_draw F_law_draw.kp b_law_draw .nil .nil rfl (takes_of rfl rfl rfl rfl) (sa_cons (se_var 0 (pv 0)) (sa_cons se_int sa_nil)))))) sa_nil)))))))))
theorem sc_law_pick : FnScope ["source", "values"] ["source", "values"] (defScope s_law_pick) := ⟨rfl, rfl, rfl, by decide +kernel, rfl, by decide +kernel, by decide +kernel⟩
theorem ok_law_pick (T : Tx K mg) {f : Addr} {fd : FuncData} (F : L2.FunD K "_law_pick" "_law_pick" (defArgs s_law_pick) (defBody s_law_pick) (defScope s_law_pick) [] [] f fd) : FnOk P w K mg base (L2.CX P w) 2 f fd ["source", "values"] (spF K 2 f_law_pick) := by
  obtain ⟨fd_law_draw, F_law_draw⟩ := T.e_law_draw
  have G_law_draw : FnOk P w K mg base (L2.CX P w) 1 _ fd_law_draw ["source", "limit"] (spF K 2 f_law_draw) := ok_law_draw T F_law_draw
  have b_law_draw : Binds K fd_law_draw ["source", "limit"] [] := F_law_draw.bindsN fun _ _ _ _ _ _ us hl => match us, hl with | [_, _], _ => rfl
  refine fn_ok F sc_law_pick (by decide) fun cdv A outer s H E hr => ?_
  have nd := sc_law_pick.nd
  exact (ss_one (ss_ret (se_ix (se_var 1 (pv 1)) (se_fn G_law_draw (hr.mono (by decide)) (by exact rfl) T.g_law_draw F_law_draw.kp b_law_draw .nil .nil rfl (takes_of rfl rfl rfl rfl) (sa_cons (se_var 0 (pv 0)) (sa_cons (se_call call_len g_len (by exact rfl) T.n_len PySem.boot_len (sa_cons (se_var 1 (pv 1)) sa_nil)) sa_nil))) fun _ _ => rfl)))
theorem sc_law_entries : FnScope ["source", "owners", "names", "most", "far", "deep", "found", "k", "taker", "givers", "time", "level", "passes", "giver", "other", "grant", "name"] ["source", "owners", "names", "most"] (defScope s_law_entries) := ⟨rfl, rfl, rfl, by decide +kernel, rfl, by decide +kernel, by decide +kernel⟩
theorem ok_law_entries (T : Tx K mg) {f : Addr} {fd : FuncData} (F : L2.FunD K "_law_entries" "_law_entries" (defArgs s_law_entries) (defBody s_law_entries) (defScope s_law_entries) [] [] f fd) : FnOk P w K mg base (L2.CX P w) 3 f fd ["source", "owners", "names", "most"] (spF K 4 f_law_entries) := by
  obtain ⟨fd_law_draw, F_law_draw⟩ := T.e_law_draw
  have G_law_draw : FnOk P w K mg base (L2.CX P w) 1 _ fd_law_draw ["source", "limit"] (spF K 2 f_law_draw) := ok_law_draw T F_law_draw
  have b_law_draw : Binds K fd_law_draw ["source", "limit"] [] := F_law_draw.bindsN fun _ _ _ _ _ _ us hl => match us, hl with | [_, _], _ => rfl
  obtain ⟨fd_law_pick, F_law_pick⟩ := T.e_law_pick
  have G_law_pick : FnOk P w K mg base (L2.CX P w) 2 _ fd_law_pick ["source", "values"] (spF K 2 f_law_pick) := ok_law_pick T F_law_pick
  have b_law_pick : Binds K fd_law_pick ["source", "values"] [] := F_law_pick.bindsN fun _ _ _ _ _ _ us hl => match us, hl with | [_, _], _ => rfl
  refine fn_ok F sc_law_entries (by decide) fun cdv A outer s H E hr => ?_
  have nd := sc_law_entries.nd
  exact (ss_cons (ss_asg (i := 4) (ps_set (i := 4) nd rfl (by first | exact Or.inl rfl | exact Or.inr rfl) (se_ix (se_lst (sa_cons se_int (sa_cons se_int (sa_cons se_int (sa_cons (se_op op_powA g_pow se_int se_int) sa_nil))))) (se_fn G_law_draw (hr.mono (by decide)) (by exact rfl) T.g_law_draw F_law_draw.kp b_law_draw .nil .nil rfl (takes_of rfl rfl rfl rfl) (sa_cons (se_var 0 (pv 0)) (sa_cons se_int sa_nil))) fun _ _ => rfl)))
  (ss_cons (ss_asg (i := 5) (ps_set (i := 5) nd rfl (by first | exact Or.inl rfl | exact Or.inr rfl) (se_ix (se_lst (sa_cons se_int (sa_cons se_int (sa_cons se_int sa_nil)))) (se_fn G_law_draw (hr.mono (by decide)) (by exact rfl) T.g_law_draw F_law_draw.kp b_law_draw .nil .nil rfl (takes_of rfl rfl rfl rfl) (sa_cons (se_var 0 (pv 0)) (sa_cons se_int sa_nil))) fun _ _ => rfl)))
  (ss_cons (ss_own (i := 6) (ps_set (i := 6) nd rfl (by first | exact Or.inl rfl | exact Or.inr rfl) (se_lst sa_nil)))
  (ss_cons (ss_for (g := .nm 7) (passes_of rfl) rfl (si_rng1 (by exact rfl) T.n_range (sa_cons (se_fn G_law_draw (hr.mono (by decide)) (by exact rfl) T.g_law_draw F_law_draw.kp b_law_draw .nil .nil rfl (takes_of rfl rfl rfl rfl) (sa_cons (se_var 0 (pv 0)) (sa_cons (se_op op_addAny g_add (se_var 3 (pv 3)) se_int) sa_nil))) sa_nil)) (pg_name (i := 7) nd rfl (by first | exact Or.inl rfl | exact Or.inr rfl)) (ss_cons (ss_asg (i := 8) (ps_set (i := 8) nd rfl (by first | exact Or.inl rfl | exact Or.inr rfl) (se_fn G_law_pick (hr.mono (by decide)) (by exact rfl) T.g_law_pick F_law_pick.kp b_law_pick .nil .nil rfl (takes_of rfl rfl rfl rfl) (sa_cons (se_var 0 (pv 0)) (sa_cons (se_var 2 (pv 2)) sa_nil)))))
  (ss_cons (ss_lcAsg (own := [("name", 16)]) (g := .nm 16) (ps_setLc (i := 9) rfl nd rfl rfl (sw_true rfl rfl rfl (by decide +kernel)) (si_e (se_op op_addAny g_add (se_var 1 (pv 1)) (se_var 2 (pv 2)))) (blkOk_by (N := ["source", "owners", "names", "most", "far", "deep", "found", "k", "taker", "givers", "time", "level", "passes", "giver", "other", "grant", "name"]) (sc := defScope s_law_entries) (own := [("name", 16)]) (by decide +kernel)) (fun _ _ _ _ _ => (pg_name (i := 16) nd rfl (by first | exact Or.inl rfl | exact Or.inr rfl))) (fun _ _ _ _ _ => (pts_one (st_cmp (op_neA hr.units) g_ne (se_var 16 (pv 16)) (se_var 8 (pv 8)) (nomark _)))) (fun _ _ _ _ _ => (se_var 16 (pv 16)))) rfl)
  (ss_cons (ss_asg (i := 10) (ps_set (i := 10) nd rfl (by first | exact Or.inl rfl | exact Or.inr rfl) (se_op op_sub g_sub (se_fn G_law_draw (hr.mono (by decide)) (by exact rfl) T.g_law_draw F_law_draw.kp b_law_draw .nil .nil rfl (takes_of rfl rfl rfl rfl) (sa_cons (se_var 0 (pv 0)) (sa_cons (se_op op_addAny g_add (se_op op_mulAny g_mul se_int (se_var 4 (pv 4))) se_int) sa_nil))) (se_var 4 (pv 4)))))
  (ss_cons (ss_par (i := 11) (j := 12) rfl nd rfl rfl (by decide) rfl rfl (sa_cons (se_op op_addAny g_add se_int (se_fn G_law_draw (hr.mono (by decide)) (by exact rfl) T.g_law_draw F_law_draw.kp b_law_draw .nil .nil rfl (takes_of rfl rfl rfl rfl) (sa_cons (se_var 0 (pv 0)) (sa_cons se_int sa_nil)))) (sa_cons (se_fn G_law_draw (hr.mono (by decide)) (by exact rfl) T.g_law_draw F_law_draw.kp b_law_draw .nil .nil rfl (takes_of rfl rfl rfl rfl) (sa_cons (se_var 0 (pv 0)) (sa_cons (se_op op_addAny g_add (se_var 5 (pv 5)) se_int) sa_nil))) sa_nil)))
  (ss_cons (ss_asg (i := 13) (ps_set (i := 13) nd rfl (by first | exact Or.inl rfl | exact Or.inr rfl) (se_fn G_law_pick (hr.mono (by decide)) (by exact rfl) T.g_law_pick F_law_pick.kp b_law_pick .nil .nil rfl (takes_of rfl rfl rfl rfl) (sa_cons (se_var 0 (pv 0)) (sa_cons (se_var 9 (pv 9)) sa_nil)))))
  (ss_cons (ss_if (swp (sw_and (st_cmp (op_neA hr.units) g_ne (se_var 6 (pv 6)) (se_lst sa_nil) (nomark _)) (sw_and1 (st_cmp (op_gtD hr.units) g_gt (se_fn G_law_draw (hr.mono (by decide)) (by exact rfl) T.g_law_draw F_law_draw.kp b_law_draw .nil .nil rfl (takes_of rfl rfl rfl rfl) (sa_cons (se_var 0 (pv 0)) (sa_cons se_int sa_nil))) se_int (nomark _))))) (ss_cons (ss_asg (i := 14) (ps_set (i := 14) nd rfl (by first | exact Or.inl rfl | exact Or.inr rfl) (se_fn G_law_pick (hr.mono (by decide)) (by exact rfl) T.g_law_pick F_law_pick.kp b_law_pick .nil .nil rfl (takes_of rfl rfl rfl rfl) (sa_cons (se_var 0 (pv 0)) (sa_cons (se_var 6 (pv 6)) sa_nil)))))
  (ss_one (ss_if (st_cmp (op_neA hr.units) g_ne (se_ix (se_var 14 (pv 14)) se_int fun _ _ => rfl) (se_var 8 (pv 8)) (nomark _)) (ss_cons (ss_asg (i := 13) (ps_set (i := 13) nd rfl (by first | exact Or.inl rfl | exact Or.inr rfl) (se_ix (se_var 14 (pv 14)) se_int fun _ _ => rfl)))
  (ss_cons (ss_asg (i := 11) (ps_set (i := 11) nd rfl (by first | exact Or.inl rfl | exact Or.inr rfl) (se_op op_addAny g_add se_int (se_fn G_law_draw (hr.mono (by decide)) (by exact rfl) T.g_law_draw F_law_draw.kp b_law_draw .nil .nil rfl (takes_of rfl rfl rfl rfl) (sa_cons (se_var 0 (pv 0)) (sa_cons (se_ix (se_var 14 (pv 14)) se_int fun _ _ => rfl) sa_nil))))))
  (ss_cons (ss_asg (i := 12) (ps_set (i := 12) nd rfl (by first | exact Or.inl rfl | exact Or.inr rfl) (se_fn G_law_draw (hr.mono (by decide)) (by exact rfl) T.g_law_draw F_law_draw.kp b_law_draw .nil .nil rfl (takes_of rfl rfl rfl rfl) (sa_cons (se_var 0 (pv 0)) (sa_cons (se_op op_addAny g_add (se_ix (se_var 14 (pv 14)) se_int fun _ _ => rfl) se_int) sa_nil)))))
  (ss_one (ss_asg (i := 10) (ps_set (i := 10) nd rfl (by first | exact Or.inl rfl | exact Or.inr rfl) (se_call (call_min2 (by exact rfl)) g_min2 (by exact rfl) T.n_min (by decide +kernel) (sa_cons (se_op op_addAny g_add (se_ix (se_var 14 (pv 14)) se_int fun _ _ => rfl) (se_fn G_law_draw (hr.mono (by decide)) (by exact rfl) T.g_law_draw F_law_draw.kp b_law_draw .nil .nil rfl (takes_of rfl rfl rfl rfl) (sa_cons (se_var 0 (pv 0)) (sa_cons se_int sa_nil)))) (sa_cons (se_op op_powA g_pow se_int se_int) sa_nil))))))))) ss_nil))) ss_nil)
  (ss_cons (ss_asg (i := 15) (ps_set (i := 15) nd rfl (by first | exact Or.inl rfl | exact Or.inr rfl) (se_tup (sa_cons (se_var 10 (pv 10)) (sa_cons (se_var 13 (pv 13)) (sa_cons (se_var 8 (pv 8)) (sa_cons (se_var 11 (pv 11)) (sa_cons (se_var 12 (pv 12)) sa_nil))))))))
  (ss_one (ss_if (st_cmp (op_notInAny (room65 hr)) g_notIn (se_var 15 (pv 15)) (se_var 6 (pv 6)) rfl) (ss_one (ss_app (i := 6) (ps_expr (pe_bm PySem.F.plainAttrs_list PySem.F.slot_list_append PySem.F.type_list_append mt_append (pv 6) (pa_cons (se_var 15 (pv 15)) pa_nil))))) ss_nil))))))))))
  (ss_one (ss_retV (pv 6)))))))
theorem sc_is_name : FnScope ["value", "letter"] ["value"] (defScope s_is_name) := ⟨rfl, rfl, rfl, by decide +kernel, rfl, by decide +kernel, by decide +kernel⟩
theorem ok_is_name (T : Tx K mg) {f : Addr} {fd : FuncData} (F : L2.FunD K "is_name" "is_name" (defArgs s_is_name) (defBody s_is_name) (defScope s_is_name) [] [] f fd) : FnOk P w K mg base (L2.CX P w) 1 f fd ["value"] (spF K 1 f_is_name) := by
  refine fn_ok F sc_is_name (by decide) fun cdv A outer s H E hr => ?_
  have nd := sc_is_name.nd
  exact (ss_one (ss_ret (se_and (se_isi (se_var 0 (pv 0)) (by exact rfl) T.n_isinstance (pe_bltn (v := .ty "str") (by exact rfl) T.n_str (by decide +kernel) rfl) (by decide)) (se_and (se_chainR (op_leD hr.units) (op_leD hr.units) g_le g_le se_int (se_call call_len g_len (by exact rfl) T.n_len PySem.boot_len (sa_cons (se_var 0 (pv 0)) sa_nil)) (se_gint (by exact rfl) T.i_MAX_NAME.choose_spec)) (se_one (se_call (cr_all (by exact rfl)) g_all (by exact rfl) T.n_all (by decide +kernel) (sa_cons (se_comp (own := [("letter", 1)]) (g := .nm 1) (by exact rfl) nd (si_vc (i := 0) (by decide) (pv 0)) (blkOk_by (N := ["value", "letter"]) (sc := defScope s_is_name) (own := [("letter", 1)]) (by decide +kernel)) rfl (fun _ _ _ _ _ => (pg_name (i := 1) nd rfl (by first | exact Or.inl rfl | exact Or.inr rfl))) (fun _ _ _ _ _ => pts_yes) (fun _ _ _ _ _ => (se_cmp (op_inAny (room65 hr)) g_in (se_var 1 (pv 1)) (se_gstr (by exact rfl) T.i_LETTERS.choose_spec) rfl))) sa_nil)))))))
theorem sc_is_integer : FnScope ["value"] ["value"] (defScope s_is_integer) := ⟨rfl, rfl, rfl, by decide +kernel, rfl, by decide +kernel, by decide +kernel⟩
theorem ok_is_integer (T : Tx K mg) {f : Addr} {fd : FuncData} (F : L2.FunD K "is_integer" "is_integer" (defArgs s_is_integer) (defBody s_is_integer) (defScope s_is_integer) [] [] f fd) : FnOk P w K mg base (L2.CX P w) 1 f fd ["value"] (spF K 1 f_is_integer) := by
  refine fn_ok F sc_is_integer (by decide) fun cdv A outer s H E hr => ?_
  have nd := sc_is_integer.nd
  exact (ss_one (ss_ret (se_and (se_isi (se_var 0 (pv 0)) (by exact rfl) T.n_isinstance (pe_bltn (v := .ty "int") (by exact rfl) T.n_int (by decide +kernel) rfl) (by decide)) (se_one (se_notT (se_isi (se_var 0 (pv 0)) (by exact rfl) T.n_isinstance (pe_bltn (v := .ty "bool") (by exact rfl) T.n_bool (by decide +kernel) rfl) (by decide)))))))
theorem sc_is_time : FnScope ["value"] ["value"] (defScope s_is_time) := ⟨rfl, rfl, rfl, by decide +kernel, rfl, by decide +kernel, by decide +kernel⟩
theorem ok_is_time (T : Tx K mg) {f : Addr} {fd : FuncData} (F : L2.FunD K "is_time" "is_time" (defArgs s_is_time) (defBody s_is_time) (defScope s_is_time) [] [] f fd) : FnOk P w K mg base (L2.CX P w) 2 f fd ["value"] (spF K 1 f_is_time) := by
  obtain ⟨fd_is_integer, F_is_integer⟩ := T.e_is_integer
  have G_is_integer : FnOk P w K mg base (L2.CX P w) 1 _ fd_is_integer ["value"] (spF K 1 f_is_integer) := ok_is_integer T F_is_integer
  have b_is_integer : Binds K fd_is_integer ["value"] [] := F_is_integer.bindsN fun _ _ _ _ _ _ us hl => match us, hl with | [_], _ => rfl
  refine fn_ok F sc_is_time (by decide) fun cdv A outer s H E hr => ?_
  have nd := sc_is_time.nd
  exact (ss_one (ss_ret (se_and (se_fn G_is_integer (hr.mono (by decide)) (by exact rfl) T.g_is_integer F_is_integer.kp b_is_integer .nil .nil rfl (takes_of rfl rfl rfl rfl) (sa_cons (se_var 0 (pv 0)) sa_nil)) (se_one (se_chainR (op_leD hr.units) (op_leD hr.units) g_le g_le (se_neg (se_gint (by exact rfl) T.i_MAX_TIME.choose_spec)) (se_var 0 (pv 0)) (se_gint (by exact rfl) T.i_MAX_TIME.choose_spec))))))
theorem sc_is_level : FnScope ["value"] ["value"] (defScope s_is_level) := ⟨rfl, rfl, rfl, by decide +kernel, rfl, by decide +kernel, by decide +kernel⟩
theorem ok_is_level (T : Tx K mg) {f : Addr} {fd : FuncData} (F : L2.FunD K "is_level" "is_level" (defArgs s_is_level) (defBody s_is_level) (defScope s_is_level) [] [] f fd) : FnOk P w K mg base (L2.CX P w) 2 f fd ["value"] (spF K 1 f_is_level) := by
  obtain ⟨fd_is_integer, F_is_integer⟩ := T.e_is_integer
  have G_is_integer : FnOk P w K mg base (L2.CX P w) 1 _ fd_is_integer ["value"] (spF K 1 f_is_integer) := ok_is_integer T F_is_integer
  have b_is_integer : Binds K fd_is_integer ["value"] [] := F_is_integer.bindsN fun _ _ _ _ _ _ us hl => match us, hl with | [_], _ => rfl
  refine fn_ok F sc_is_level (by decide) fun cdv A outer s H E hr => ?_
  have nd := sc_is_level.nd
  exact (ss_one (ss_ret (se_and (se_fn G_is_integer (hr.mono (by decide)) (by exact rfl) T.g_is_integer F_is_integer.kp b_is_integer .nil .nil rfl (takes_of rfl rfl rfl rfl) (sa_cons (se_var 0 (pv 0)) sa_nil)) (se_one (se_chainR (op_leD hr.units) (op_leD hr.units) g_le g_le se_int (se_var 0 (pv 0)) (se_gint (by exact rfl) T.i_MAX_LEVEL.choose_spec))))))
theorem sc_is_passes : FnScope ["value"] ["value"] (defScope s_is_passes) := ⟨rfl, rfl, rfl, by decide +kernel, rfl, by decide +kernel, by decide +kernel⟩
theorem ok_is_passes (T : Tx K mg) {f : Addr} {fd : FuncData} (F : L2.FunD K "is_passes" "is_passes" (defArgs s_is_passes) (defBody s_is_passes) (defScope s_is_passes) [] [] f fd) : FnOk P w K mg base (L2.CX P w) 2 f fd ["value"] (spF K 1 f_is_passes) := by
  obtain ⟨fd_is_integer, F_is_integer⟩ := T.e_is_integer
  have G_is_integer : FnOk P w K mg base (L2.CX P w) 1 _ fd_is_integer ["value"] (spF K 1 f_is_integer) := ok_is_integer T F_is_integer
  have b_is_integer : Binds K fd_is_integer ["value"] [] := F_is_integer.bindsN fun _ _ _ _ _ _ us hl => match us, hl with | [_], _ => rfl
  refine fn_ok F sc_is_passes (by decide) fun cdv A outer s H E hr => ?_
  have nd := sc_is_passes.nd
  exact (ss_one (ss_ret (se_and (se_fn G_is_integer (hr.mono (by decide)) (by exact rfl) T.g_is_integer F_is_integer.kp b_is_integer .nil .nil rfl (takes_of rfl rfl rfl rfl) (sa_cons (se_var 0 (pv 0)) sa_nil)) (se_one (se_chainR (op_leD hr.units) (op_leD hr.units) g_le g_le se_int (se_var 0 (pv 0)) (se_gint (by exact rfl) T.i_MAX_PASSES.choose_spec))))))
theorem sc_grant_error : FnScope ["value", "time", "giver", "taker", "level", "passes"] ["value"] (defScope s_grant_error) := ⟨rfl, rfl, rfl, by decide +kernel, rfl, by decide +kernel, by decide +kernel⟩
theorem ok_grant_error (T : Tx K mg) {f : Addr} {fd : FuncData} (F : L2.FunD K "grant_error" "grant_error" (defArgs s_grant_error) (defBody s_grant_error) (defScope s_grant_error) [] [] f fd) : FnOk P w K mg base (L2.CX P w) 3 f fd ["value"] (spF K 1 f_grant_error) := by
  obtain ⟨fd_is_time, F_is_time⟩ := T.e_is_time
  have G_is_time : FnOk P w K mg base (L2.CX P w) 2 _ fd_is_time ["value"] (spF K 1 f_is_time) := ok_is_time T F_is_time
  have b_is_time : Binds K fd_is_time ["value"] [] := F_is_time.bindsN fun _ _ _ _ _ _ us hl => match us, hl with | [_], _ => rfl
  obtain ⟨fd_is_name, F_is_name⟩ := T.e_is_name
  have G_is_name : FnOk P w K mg base (L2.CX P w) 1 _ fd_is_name ["value"] (spF K 1 f_is_name) := ok_is_name T F_is_name
  have b_is_name : Binds K fd_is_name ["value"] [] := F_is_name.bindsN fun _ _ _ _ _ _ us hl => match us, hl with | [_], _ => rfl
  obtain ⟨fd_is_level, F_is_level⟩ := T.e_is_level
  have G_is_level : FnOk P w K mg base (L2.CX P w) 2 _ fd_is_level ["value"] (spF K 1 f_is_level) := ok_is_level T F_is_level
  have b_is_level : Binds K fd_is_level ["value"] [] := F_is_level.bindsN fun _ _ _ _ _ _ us hl => match us, hl with | [_], _ => rfl
  obtain ⟨fd_is_passes, F_is_passes⟩ := T.e_is_passes
  have G_is_passes : FnOk P w K mg base (L2.CX P w) 2 _ fd_is_passes ["value"] (spF K 1 f_is_passes) := ok_is_passes T F_is_passes
  have b_is_passes : Binds K fd_is_passes ["value"] [] := F_is_passes.bindsN fun _ _ _ _ _ _ us hl => match us, hl with | [_], _ => rfl
  refine fn_ok F sc_grant_error (by decide) fun cdv A outer s H E hr => ?_
  have nd := sc_grant_error.nd
  exact (ss_cons (ss_if (swp (sw_or (st_not (st_truth (se_isi (se_var 0 (pv 0)) (by exact rfl) T.n_isinstance (pe_bltn (v := .ty "tuple") (by exact rfl) T.n_tuple (by decide +kernel) rfl) (by decide)))) (sw_or1 (st_cmp (op_neA hr.units) g_ne (se_call call_len g_len (by exact rfl) T.n_len PySem.boot_len (sa_cons (se_var 0 (pv 0)) sa_nil)) se_int (nomark _))))) (ss_one (ss_ret (se_tup (sa_cons se_str sa_nil)))) ss_nil)
  (ss_cons (ss_unp (g := .tp [1, 2, 3, 4, 5]) (se_var 0 (pv 0)) (pg_tup rfl (pgs_cons (pg_name (i := 1) nd rfl (by first | exact Or.inl rfl | exact Or.inr rfl)) (pgs_cons (pg_name (i := 2) nd rfl (by first | exact Or.inl rfl | exact Or.inr rfl)) (pgs_cons (pg_name (i := 3) nd rfl (by first | exact Or.inl rfl | exact Or.inr rfl)) (pgs_cons (pg_name (i := 4) nd rfl (by first | exact Or.inl rfl | exact Or.inr rfl)) (pgs_cons (pg_name (i := 5) nd rfl (by first | exact Or.inl rfl | exact Or.inr rfl)) pgs_nil)))))))
  (ss_cons (ss_if (st_not (st_truth (se_fn G_is_time (hr.mono (by decide)) (by exact rfl) T.g_is_time F_is_time.kp b_is_time .nil .nil rfl (takes_of rfl rfl rfl rfl) (sa_cons (se_var 1 (pv 1)) sa_nil)))) (ss_one (ss_ret (se_tup (sa_cons se_str sa_nil)))) ss_nil)
  (ss_cons (ss_if (st_not (st_truth (se_fn G_is_name (hr.mono (by decide)) (by exact rfl) T.g_is_name F_is_name.kp b_is_name .nil .nil rfl (takes_of rfl rfl rfl rfl) (sa_cons (se_var 2 (pv 2)) sa_nil)))) (ss_one (ss_ret (se_tup (sa_cons se_str sa_nil)))) ss_nil)
  (ss_cons (ss_if (st_not (st_truth (se_fn G_is_name (hr.mono (by decide)) (by exact rfl) T.g_is_name F_is_name.kp b_is_name .nil .nil rfl (takes_of rfl rfl rfl rfl) (sa_cons (se_var 3 (pv 3)) sa_nil)))) (ss_one (ss_ret (se_tup (sa_cons se_str sa_nil)))) ss_nil)
  (ss_cons (ss_if (st_cmp (op_eqA hr.units) g_eq (se_var 2 (pv 2)) (se_var 3 (pv 3)) (nomark _)) (ss_one (ss_ret (se_tup (sa_cons se_str sa_nil)))) ss_nil)
  (ss_cons (ss_if (st_not (st_truth (se_fn G_is_level (hr.mono (by decide)) (by exact rfl) T.g_is_level F_is_level.kp b_is_level .nil .nil rfl (takes_of rfl rfl rfl rfl) (sa_cons (se_var 4 (pv 4)) sa_nil)))) (ss_one (ss_ret (se_tup (sa_cons se_str sa_nil)))) ss_nil)
  (ss_one (ss_ret (se_ifExp (st_truth (se_fn G_is_passes (hr.mono (by decide)) (by exact rfl) T.g_is_passes F_is_passes.kp b_is_passes .nil .nil rfl (takes_of rfl rfl rfl rfl) (sa_cons (se_var 5 (pv 5)) sa_nil))) se_non (se_tup (sa_cons se_str sa_nil))))))))))))
theorem sc_roll_error : FnScope ["owners", "grants", "most", "k", "owner", "grant", "reason"] ["owners", "grants", "most"] (defScope s_roll_error) := ⟨rfl, rfl, rfl, by decide +kernel, rfl, by decide +kernel, by decide +kernel⟩
theorem ok_roll_error (T : Tx K mg) {f : Addr} {fd : FuncData} (F : L2.FunD K "roll_error" "roll_error" (defArgs s_roll_error) (defBody s_roll_error) (defScope s_roll_error) [] [] f fd) : FnOk P w K mg base (L2.CX P w) 4 f fd ["owners", "grants", "most"] (spF K 3 f_roll_error) := by
  obtain ⟨fd_is_name, F_is_name⟩ := T.e_is_name
  have G_is_name : FnOk P w K mg base (L2.CX P w) 1 _ fd_is_name ["value"] (spF K 1 f_is_name) := ok_is_name T F_is_name
  have b_is_name : Binds K fd_is_name ["value"] [] := F_is_name.bindsN fun _ _ _ _ _ _ us hl => match us, hl with | [_], _ => rfl
  obtain ⟨fd_grant_error, F_grant_error⟩ := T.e_grant_error
  have G_grant_error : FnOk P w K mg base (L2.CX P w) 3 _ fd_grant_error ["value"] (spF K 1 f_grant_error) := ok_grant_error T F_grant_error
  have b_grant_error : Binds K fd_grant_error ["value"] [] := F_grant_error.bindsN fun _ _ _ _ _ _ us hl => match us, hl with | [_], _ => rfl
  refine fn_ok F sc_roll_error (by decide) fun cdv A outer s H E hr => ?_
  have nd := sc_roll_error.nd
  exact (ss_cons (ss_if (st_not (st_chainR (op_leD hr.units) (op_leD hr.units) g_le g_le se_int (se_call call_len g_len (by exact rfl) T.n_len PySem.boot_len (sa_cons (se_var 0 (pv 0)) sa_nil)) (se_gint (by exact rfl) T.i_MAX_OWNERS.choose_spec))) (ss_one (ss_ret (se_tup (sa_cons se_str sa_nil)))) ss_nil)
  (ss_cons (ss_for (g := .tp [3, 4]) (passes_of rfl) rfl (si_enumV (by exact rfl) T.n_enumerate (pv 0)) (pg_tup rfl (pgs_cons (pg_name (i := 3) nd rfl (by first | exact Or.inl rfl | exact Or.inr rfl)) (pgs_cons (pg_name (i := 4) nd rfl (by first | exact Or.inl rfl | exact Or.inr rfl)) pgs_nil))) (ss_one (ss_if (swp (sw_or (st_not (st_truth (se_fn G_is_name (hr.mono (by decide)) (by exact rfl) T.g_is_name F_is_name.kp b_is_name .nil .nil rfl (takes_of rfl rfl rfl rfl) (sa_cons (se_var 4 (pv 4)) sa_nil)))) (sw_or1 (st_cmp (op_inAny (room65 hr)) g_in (se_var 4 (pv 4)) (se_sl (se_var 0 (pv 0)) so_none (so_some (se_var 3 (pv 3)))) rfl)))) (ss_one (ss_ret (se_tup (sa_cons se_str (sa_cons (se_var 3 (pv 3)) sa_nil))))) ss_nil)))
  (ss_cons (ss_if (swp (sw_or (st_not (st_truth (se_isiT (se_var 1 (pv 1)) (by exact rfl) T.n_isinstance (pe_bltn (v := .ty "list") (by exact rfl) T.n_list (by decide +kernel) rfl) (pe_bltn (v := .ty "tuple") (by exact rfl) T.n_tuple (by decide +kernel) rfl) (by decide) (by decide) (pa_cons (se_var 1 (pv 1)) (pa_cons (pe_tup (pa_cons (pe_bltn (v := .ty "list") (by exact rfl) T.n_list (by decide +kernel) rfl) (pa_cons (pe_bltn (v := .ty "tuple") (by exact rfl) T.n_tuple (by decide +kernel) rfl) pa_nil))) pa_nil))))) (sw_or1 (st_cmp (op_gtD hr.units) g_gt (se_call call_len g_len (by exact rfl) T.n_len PySem.boot_len (sa_cons (se_var 1 (pv 1)) sa_nil)) (se_var 2 (pv 2)) (nomark _))))) (ss_one (ss_ret (se_tup (sa_cons se_str sa_nil)))) ss_nil)
  (ss_cons (ss_for (g := .tp [3, 5]) (passes_of rfl) rfl (si_enumV (by exact rfl) T.n_enumerate (pv 1)) (pg_tup rfl (pgs_cons (pg_name (i := 3) nd rfl (by first | exact Or.inl rfl | exact Or.inr rfl)) (pgs_cons (pg_name (i := 5) nd rfl (by first | exact Or.inl rfl | exact Or.inr rfl)) pgs_nil))) (ss_cons (ss_asg (i := 6) (ps_set (i := 6) nd rfl (by first | exact Or.inl rfl | exact Or.inr rfl) (se_fn G_grant_error (hr.mono (by decide)) (by exact rfl) T.g_grant_error F_grant_error.kp b_grant_error .nil .nil rfl (takes_of rfl rfl rfl rfl) (sa_cons (se_var 5 (pv 5)) sa_nil))))
  (ss_cons (ss_if (st_notN (se_var 6 (pv 6))) (ss_one (ss_ret (se_tup (sa_cons se_str (sa_cons (se_var 3 (pv 3)) (sa_cons (se_var 6 (pv 6)) sa_nil)))))) ss_nil)
  (ss_cons (ss_if (st_cmp (op_inAny (room65 hr)) g_in (se_ix (se_var 5 (pv 5)) se_int fun _ _ => rfl) (se_var 0 (pv 0)) rfl) (ss_one (ss_ret (se_tup (sa_cons se_str (sa_cons (se_var 3 (pv 3)) sa_nil))))) ss_nil)
  (ss_one (ss_if (st_cmp (op_inAny (room65 hr)) g_in (se_var 5 (pv 5)) (se_sl (se_var 1 (pv 1)) so_none (so_some (se_var 3 (pv 3)))) rfl) (ss_one (ss_ret (se_tup (sa_cons se_str (sa_cons (se_var 3 (pv 3)) sa_nil))))) ss_nil))))))
  (ss_one (ss_ret se_non))))))
theorem sc_Roll_init : FnScope ["self", "grants", "owners", "reason"] ["self", "grants", "owners"] (defScope s_Roll_init) := ⟨rfl, rfl, rfl, by decide +kernel, rfl, by decide +kernel, by decide +kernel⟩
theorem ok_Roll_init (T : Tx K mg) {f : Addr} {fd : FuncData} (F : L2.FunD K "__init__" "Roll.__init__" (defArgs s_Roll_init) (defBody s_Roll_init) (defScope s_Roll_init) [] [] f fd) : FnI P w K mg base (L2.CX P w) 5 f "grants" (spF K 3 f_Roll_init) := by
  obtain ⟨fd_roll_error, F_roll_error⟩ := T.e_roll_error
  have G_roll_error : FnOk P w K mg base (L2.CX P w) 4 _ fd_roll_error ["owners", "grants", "most"] (spF K 3 f_roll_error) := ok_roll_error T F_roll_error
  have b_roll_error : Binds K fd_roll_error ["owners", "grants", "most"] [] := F_roll_error.bindsN fun _ _ _ _ _ _ us hl => match us, hl with | [_, _, _], _ => rfl
  refine init_ok F sc_Roll_init (fun dV kV doc pm an cdv ct u0 ug rest hD => by
    rcases hD with ⟨_, rfl⟩ | ⟨z, _⟩
    · cases rest <;> rfl
    · exact absurd rfl z) (by decide) fun cdv A outer s H E hr => ?_
  have nd := sc_Roll_init.nd
  exact (ss_cons (ss_asg (i := 3) (ps_set (i := 3) nd rfl (by first | exact Or.inl rfl | exact Or.inr rfl) (se_fn G_roll_error (hr.mono (by decide)) (by exact rfl) T.g_roll_error F_roll_error.kp b_roll_error .nil .nil rfl (takes_of rfl rfl rfl rfl) (sa_cons (se_var 2 (pv 2)) (sa_cons (se_var 1 (pv 1)) (sa_cons (se_ccon (by exact rfl) T.g_Roll T.cr_Roll T.cv_most.choose_spec) sa_nil))))))
  (ss_cons (ss_if (st_notN (se_var 3 (pv 3))) (ss_one ss_never) ss_nil)
  (ss_cons (ss_fldM (c := 0) (k := 0) (se_callTy call_tuple_of g_tuple (by exact rfl) T.n_tuple (by decide +kernel) (sa_cons (se_call (cr_sortD hr) g_sort (by exact rfl) T.n_sorted (by decide +kernel) (sa_cons (se_var 2 (pv 2)) sa_nil)) sa_nil)) (pv 0) T.cl_Roll T.na_own rfl (by decide +kernel) (by decide))
  (ss_one (ss_fldM (c := 0) (k := 1) (se_callTy call_tuple_of g_tuple (by exact rfl) T.n_tuple (by decide +kernel) (sa_cons (se_call (cr_sortD hr) g_sort (by exact rfl) T.n_sorted (by decide +kernel) (sa_cons (se_var 1 (pv 1)) sa_nil)) sa_nil)) (pv 0) T.cl_Roll T.na_made rfl (by decide +kernel) (by decide))))))
theorem sc_law_make : FnScope ["owners", "entries"] ["owners", "entries"] (defScope s_law_make) := ⟨rfl, rfl, rfl, by decide +kernel, rfl, by decide +kernel, by decide +kernel⟩
theorem ok_law_make (T : Tx K mg) {f : Addr} {fd : FuncData} (F : L2.FunD K "_law_make" "_law_make" (defArgs s_law_make) (defBody s_law_make) (defScope s_law_make) [] [] f fd) : FnOk P w K mg base (L2.CX P w) 7 f fd ["owners", "entries"] (spF K 2 f_law_make) := by
  obtain ⟨fd_Roll_init, F_Roll_init⟩ := T.e_Roll_init
  have J_Roll_init : FnI P w K mg base (L2.CX P w) 5 _ "grants" (spF K 3 f_Roll_init) := ok_Roll_init T F_Roll_init
  refine fn_ok F sc_law_make (by decide) fun cdv A outer s H E hr => ?_
  have nd := sc_law_make.nd
  exact (ss_cons (ss_if (st_cmp (op_eqA hr.units) g_eq (se_call call_len g_len (by exact rfl) T.n_len PySem.boot_len (sa_cons (se_var 0 (pv 0)) sa_nil)) se_int (nomark _)) (ss_one (ss_ret (se_make T.mk_Roll J_Roll_init (hr.mono (by decide)) (by exact rfl) T.g_Roll (takes_of rfl rfl rfl rfl) (sa_cons (se_ix (se_var 0 (pv 0)) se_int fun _ _ => rfl) sa_nil) (se_var 1 (pv 1))))) ss_nil)
  (ss_cons (ss_if (st_cmp (op_eqA hr.units) g_eq (se_call call_len g_len (by exact rfl) T.n_len PySem.boot_len (sa_cons (se_var 0 (pv 0)) sa_nil)) se_int (nomark _)) (ss_one (ss_ret (se_make T.mk_Roll J_Roll_init (hr.mono (by decide)) (by exact rfl) T.g_Roll (takes_of rfl rfl rfl rfl) (sa_cons (se_ix (se_var 0 (pv 0)) se_int fun _ _ => rfl) (sa_cons (se_ix (se_var 0 (pv 0)) se_int fun _ _ => rfl) sa_nil)) (se_var 1 (pv 1))))) ss_nil)
  (ss_cons (ss_if (st_cmp (op_eqA hr.units) g_eq (se_call call_len g_len (by exact rfl) T.n_len PySem.boot_len (sa_cons (se_var 0 (pv 0)) sa_nil)) se_int (nomark _)) (ss_one (ss_ret (se_make T.mk_Roll J_Roll_init (hr.mono (by decide)) (by exact rfl) T.g_Roll (takes_of rfl rfl rfl rfl) (sa_cons (se_ix (se_var 0 (pv 0)) se_int fun _ _ => rfl) (sa_cons (se_ix (se_var 0 (pv 0)) se_int fun _ _ => rfl) (sa_cons (se_ix (se_var 0 (pv 0)) se_int fun _ _ => rfl) sa_nil))) (se_var 1 (pv 1))))) ss_nil)
  (ss_one (ss_ret (se_make T.mk_Roll J_Roll_init (hr.mono (by decide)) (by exact rfl) T.g_Roll (takes_of rfl rfl rfl rfl) (sa_cons (se_ix (se_var 0 (pv 0)) se_int fun _ _ => rfl) (sa_cons (se_ix (se_var 0 (pv 0)) se_int fun _ _ => rfl) (sa_cons (se_ix (se_var 0 (pv 0)) se_int fun _ _ => rfl) (sa_cons (se_ix (se_var 0 (pv 0)) se_int fun _ _ => rfl) sa_nil)))) (se_var 1 (pv 1))))))))
theorem sc_Roll_grants : FnScope ["self"] ["self"] (defScope s_Roll_grants) := ⟨rfl, rfl, rfl, by decide +kernel, rfl, by decide +kernel, by decide +kernel⟩
theorem ok_Roll_grants (T : Tx K mg) {f : Addr} {fd : FuncData} (F : L2.FunD K "grants" "Roll.grants" (defArgs s_Roll_grants) (defBody s_Roll_grants) (defScope s_Roll_grants) [] [] f fd) : FnOk P w K mg base (L2.CX P w) 1 f fd ["self"] (spF K 1 f_Roll_grants) := by
  refine fn_ok F sc_Roll_grants (by decide) fun cdv A outer s H E hr => ?_
  have nd := sc_Roll_grants.nd
  exact (ss_one (ss_ret (se_fld (c := 0) (k := 1) (se_var 0 (pv 0)) T.cl_Roll T.na_made rfl (by decide +kernel))))
theorem sc_is_support : FnScope ["first", "second", "time", "giver", "taker", "level", "passes"] ["first", "second"] (defScope s_is_support) := ⟨rfl, rfl, rfl, by decide +kernel, rfl, by decide +kernel, by decide +kernel⟩
theorem ok_is_support (T : Tx K mg) {f : Addr} {fd : FuncData} (F : L2.FunD K "is_support" "is_support" (defArgs s_is_support) (defBody s_is_support) (defScope s_is_support) [] [] f fd) : FnOk P w K mg base (L2.CX P w) 1 f fd ["first", "second"] (spF K 2 f_is_support) := by
  refine fn_ok F sc_is_support (by decide) fun cdv A outer s H E hr => ?_
  have nd := sc_is_support.nd
  exact (ss_cons (ss_unp (g := .tp [2, 3, 4, 5, 6]) (se_var 0 (pv 0)) (pg_tup rfl (pgs_cons (pg_name (i := 2) nd rfl (by first | exact Or.inl rfl | exact Or.inr rfl)) (pgs_cons (pg_name (i := 3) nd rfl (by first | exact Or.inl rfl | exact Or.inr rfl)) (pgs_cons (pg_name (i := 4) nd rfl (by first | exact Or.inl rfl | exact Or.inr rfl)) (pgs_cons (pg_name (i := 5) nd rfl (by first | exact Or.inl rfl | exact Or.inr rfl)) (pgs_cons (pg_name (i := 6) nd rfl (by first | exact Or.inl rfl | exact Or.inr rfl)) pgs_nil)))))))
  (ss_cons (ss_if (swp (sw_or (st_cmp (op_neA hr.units) g_ne (se_var 4 (pv 4)) (se_ix (se_var 1 (pv 1)) se_int fun _ _ => rfl) (nomark _)) (sw_or1 (st_cmp (op_geD hr.units) g_ge (se_var 2 (pv 2)) (se_ix (se_var 1 (pv 1)) se_int fun _ _ => rfl) (nomark _))))) (ss_one (ss_ret se_bl)) ss_nil)
  (ss_one (ss_ret (se_and (se_cmp (op_geD hr.units) g_ge (se_var 5 (pv 5)) (se_ix (se_var 1 (pv 1)) se_int fun _ _ => rfl) (nomark _)) (se_one (se_cmp (op_gtD hr.units) g_gt (se_var 6 (pv 6)) (se_ix (se_var 1 (pv 1)) se_int fun _ _ => rfl) (nomark _))))))))
theorem sc_counts_in : FnScope ["owners", "grants", "found", "grant", "other"] ["owners", "grants"] (defScope s_counts_in) := ⟨rfl, rfl, rfl, by decide +kernel, rfl, by decide +kernel, by decide +kernel⟩
theorem ok_counts_in (T : Tx K mg) {f : Addr} {fd : FuncData} (F : L2.FunD K "counts_in" "counts_in" (defArgs s_counts_in) (defBody s_counts_in) (defScope s_counts_in) [] [] f fd) : FnOk P w K mg base (L2.CX P w) 2 f fd ["owners", "grants"] (spF K 2 f_counts_in) := by
  obtain ⟨fd_is_support, F_is_support⟩ := T.e_is_support
  have G_is_support : FnOk P w K mg base (L2.CX P w) 1 _ fd_is_support ["first", "second"] (spF K 2 f_is_support) := ok_is_support T F_is_support
  have b_is_support : Binds K fd_is_support ["first", "second"] [] := F_is_support.bindsN fun _ _ _ _ _ _ us hl => match us, hl with | [_, _], _ => rfl
  refine fn_ok F sc_counts_in (by decide) fun cdv A outer s H E hr => ?_
  have nd := sc_counts_in.nd
  exact (ss_cons (ss_own (i := 2) (ps_set (i := 2) nd rfl (by first | exact Or.inl rfl | exact Or.inr rfl) (se_lst sa_nil)))
  (ss_cons (ss_for (g := .nm 3) (passes_of rfl) rfl (si_e (se_call (cr_sortD hr) g_sort (by exact rfl) T.n_sorted (by decide +kernel) (sa_cons (se_var 1 (pv 1)) sa_nil))) (pg_name (i := 3) nd rfl (by first | exact Or.inl rfl | exact Or.inr rfl)) (ss_one (ss_if (swp (sw_or (st_cmp (op_inAny (room65 hr)) g_in (se_ix (se_var 3 (pv 3)) se_int fun _ _ => rfl) (se_var 0 (pv 0)) rfl) (sw_or1 (st_truth (se_call (cr_any (by exact rfl)) g_any (by exact rfl) T.n_any (by decide +kernel) (sa_cons (se_comp (own := [("other", 4)]) (g := .nm 4) (by exact rfl) nd (si_vc (i := 2) (by decide) (pv 2)) (blkOk_by (N := ["owners", "grants", "found", "grant", "other"]) (sc := defScope s_counts_in) (own := [("other", 4)]) (by decide +kernel)) rfl (fun _ _ _ _ _ => (pg_name (i := 4) nd rfl (by first | exact Or.inl rfl | exact Or.inr rfl))) (fun _ _ _ _ _ => pts_yes) (fun _ _ _ _ _ => (se_fn G_is_support (hr.mono (by decide)) (by exact rfl) T.g_is_support F_is_support.kp b_is_support .nil .nil rfl takes0 (sa_cons (se_var 4 (pv 4)) (sa_cons (se_var 3 (pv 3)) sa_nil))))) sa_nil)))))) (ss_one (ss_app (i := 2) (ps_expr (pe_bm PySem.F.plainAttrs_list PySem.F.slot_list_append PySem.F.type_list_append mt_append (pv 2) (pa_cons (se_var 3 (pv 3)) pa_nil))))) ss_nil)))
  (ss_one (ss_retV (pv 2)))))
theorem sc_Roll_owners : FnScope ["self"] ["self"] (defScope s_Roll_owners) := ⟨rfl, rfl, rfl, by decide +kernel, rfl, by decide +kernel, by decide +kernel⟩
theorem ok_Roll_owners (T : Tx K mg) {f : Addr} {fd : FuncData} (F : L2.FunD K "owners" "Roll.owners" (defArgs s_Roll_owners) (defBody s_Roll_owners) (defScope s_Roll_owners) [] [] f fd) : FnOk P w K mg base (L2.CX P w) 1 f fd ["self"] (spF K 1 f_Roll_owners) := by
  refine fn_ok F sc_Roll_owners (by decide) fun cdv A outer s H E hr => ?_
  have nd := sc_Roll_owners.nd
  exact (ss_one (ss_ret (se_fld (c := 0) (k := 0) (se_var 0 (pv 0)) T.cl_Roll T.na_own rfl (by decide +kernel))))
theorem sc_rest_for : FnScope ["roll", "grant", "other"] ["roll", "grant"] (defScope s_rest_for) := ⟨rfl, rfl, rfl, by decide +kernel, rfl, by decide +kernel, by decide +kernel⟩
theorem ok_rest_for (T : Tx K mg) {f : Addr} {fd : FuncData} (F : L2.FunD K "rest_for" "rest_for" (defArgs s_rest_for) (defBody s_rest_for) (defScope s_rest_for) [] [] f fd) : FnOk P w K mg base (L2.CX P w) 3 f fd ["roll", "grant"] (spF K 2 f_rest_for) := by
  obtain ⟨fd_Roll_grants, F_Roll_grants⟩ := T.e_Roll_grants
  have G_Roll_grants : FnOk P w K mg base (L2.CX P w) 1 _ fd_Roll_grants ["self"] (spF K 1 f_Roll_grants) := ok_Roll_grants T F_Roll_grants
  have b_Roll_grants : Binds K fd_Roll_grants ["self"] [] := F_Roll_grants.bindsN fun _ _ _ _ _ _ us hl => match us, hl with | [_], _ => rfl
  refine fn_ok F sc_rest_for (by decide) fun cdv A outer s H E hr => ?_
  have nd := sc_rest_for.nd
  exact (ss_one (ss_ret (se_comp (own := [("other", 2)]) (g := .nm 2) (by exact rfl) nd (si_e (se_prop (c := 0) G_Roll_grants (hr.mono (by decide)) T.cl_Roll T.pr_grants b_Roll_grants k_Roll_grants (se_var 0 (pv 0)))) (blkOk_by (N := ["roll", "grant", "other"]) (sc := defScope s_rest_for) (own := [("other", 2)]) (by decide +kernel)) rfl (fun _ _ _ _ _ => (pg_name (i := 2) nd rfl (by first | exact Or.inl rfl | exact Or.inr rfl))) (fun _ _ _ _ _ => (pts_one (swp (sw_or (st_cmp (op_neA hr.units) g_ne (se_ix (se_var 2 (pv 2)) se_int fun _ _ => rfl) (se_ix (se_var 1 (pv 1)) se_int fun _ _ => rfl) (nomark _)) (sw_or1 (st_cmp (op_geD hr.units) g_ge (se_ix (se_var 2 (pv 2)) se_int fun _ _ => rfl) (se_ix (se_var 1 (pv 1)) se_int fun _ _ => rfl) (nomark _))))))) (fun _ _ _ _ _ => (se_var 2 (pv 2))))))
theorem sc_is_useful : FnScope ["roll", "grant"] ["roll", "grant"] (defScope s_is_useful) := ⟨rfl, rfl, rfl, by decide +kernel, rfl, by decide +kernel, by decide +kernel⟩
theorem ok_is_useful (T : Tx K mg) {f : Addr} {fd : FuncData} (F : L2.FunD K "is_useful" "is_useful" (defArgs s_is_useful) (defBody s_is_useful) (defScope s_is_useful) [] [] f fd) : FnOk P w K mg base (L2.CX P w) 4 f fd ["roll", "grant"] (spF K 2 f_is_useful) := by
  obtain ⟨fd_counts_in, F_counts_in⟩ := T.e_counts_in
  have G_counts_in : FnOk P w K mg base (L2.CX P w) 2 _ fd_counts_in ["owners", "grants"] (spF K 2 f_counts_in) := ok_counts_in T F_counts_in
  have b_counts_in : Binds K fd_counts_in ["owners", "grants"] [] := F_counts_in.bindsN fun _ _ _ _ _ _ us hl => match us, hl with | [_, _], _ => rfl
  obtain ⟨fd_Roll_owners, F_Roll_owners⟩ := T.e_Roll_owners
  have G_Roll_owners : FnOk P w K mg base (L2.CX P w) 1 _ fd_Roll_owners ["self"] (spF K 1 f_Roll_owners) := ok_Roll_owners T F_Roll_owners
  have b_Roll_owners : Binds K fd_Roll_owners ["self"] [] := F_Roll_owners.bindsN fun _ _ _ _ _ _ us hl => match us, hl with | [_], _ => rfl
  obtain ⟨fd_rest_for, F_rest_for⟩ := T.e_rest_for
  have G_rest_for : FnOk P w K mg base (L2.CX P w) 3 _ fd_rest_for ["roll", "grant"] (spF K 2 f_rest_for) := ok_rest_for T F_rest_for
  have b_rest_for : Binds K fd_rest_for ["roll", "grant"] [] := F_rest_for.bindsN fun _ _ _ _ _ _ us hl => match us, hl with | [_, _], _ => rfl
  refine fn_ok F sc_is_useful (by decide) fun cdv A outer s H E hr => ?_
  have nd := sc_is_useful.nd
  exact (ss_one (ss_ret (se_cmp (op_inAny (room65 hr)) g_in (se_var 1 (pv 1)) (se_fn G_counts_in (hr.mono (by decide)) (by exact rfl) T.g_counts_in F_counts_in.kp b_counts_in .nil .nil rfl (takes_of rfl rfl rfl rfl) (sa_cons (se_prop (c := 0) G_Roll_owners (hr.mono (by decide)) T.cl_Roll T.pr_owners b_Roll_owners k_Roll_owners (se_var 0 (pv 0))) (sa_cons (se_fn G_rest_for (hr.mono (by decide)) (by exact rfl) T.g_rest_for F_rest_for.kp b_rest_for .nil .nil rfl (takes_of rfl rfl rfl rfl) (sa_cons (se_var 0 (pv 0)) (sa_cons (se_var 1 (pv 1)) sa_nil))) sa_nil))) rfl)))
theorem sc_core : FnScope ["roll", "grant"] ["roll"] (defScope s_core) := ⟨rfl, rfl, rfl, by decide +kernel, rfl, by decide +kernel, by decide +kernel⟩
theorem ok_core (T : Tx K mg) {f : Addr} {fd : FuncData} (F : L2.FunD K "core" "core" (defArgs s_core) (defBody s_core) (defScope s_core) [] [] f fd) : FnOk P w K mg base (L2.CX P w) 5 f fd ["roll"] (spF K 1 f_core) := by
  obtain ⟨fd_Roll_grants, F_Roll_grants⟩ := T.e_Roll_grants
  have G_Roll_grants : FnOk P w K mg base (L2.CX P w) 1 _ fd_Roll_grants ["self"] (spF K 1 f_Roll_grants) := ok_Roll_grants T F_Roll_grants
  have b_Roll_grants : Binds K fd_Roll_grants ["self"] [] := F_Roll_grants.bindsN fun _ _ _ _ _ _ us hl => match us, hl with | [_], _ => rfl
  obtain ⟨fd_is_useful, F_is_useful⟩ := T.e_is_useful
  have G_is_useful : FnOk P w K mg base (L2.CX P w) 4 _ fd_is_useful ["roll", "grant"] (spF K 2 f_is_useful) := ok_is_useful T F_is_useful
  have b_is_useful : Binds K fd_is_useful ["roll", "grant"] [] := F_is_useful.bindsN fun _ _ _ _ _ _ us hl => match us, hl with | [_, _], _ => rfl
  refine fn_ok F sc_core (by decide) fun cdv A outer s H E hr => ?_
  have nd := sc_core.nd
  exact (ss_one (ss_ret (se_comp (own := [("grant", 1)]) (g := .nm 1) (by exact rfl) nd (si_e (se_prop (c := 0) G_Roll_grants (hr.mono (by decide)) T.cl_Roll T.pr_grants b_Roll_grants k_Roll_grants (se_var 0 (pv 0)))) (blkOk_by (N := ["roll", "grant"]) (sc := defScope s_core) (own := [("grant", 1)]) (by decide +kernel)) rfl (fun _ _ _ _ _ => (pg_name (i := 1) nd rfl (by first | exact Or.inl rfl | exact Or.inr rfl))) (fun _ _ _ _ _ => (pts_one (st_truth (se_fn G_is_useful (hr.mono (by decide)) (by exact rfl) T.g_is_useful F_is_useful.kp b_is_useful .nil .nil rfl takes0 (sa_cons (se_var 0 (pv 0)) (sa_cons (se_var 1 (pv 1)) sa_nil)))))) (fun _ _ _ _ _ => (se_var 1 (pv 1))))))
theorem sc_Roll_contains : FnScope ["self", "value"] ["self", "value"] (defScope s_Roll_contains) := ⟨rfl, rfl, rfl, by decide +kernel, rfl, by decide +kernel, by decide +kernel⟩
theorem ok_Roll_contains (T : Tx K mg) {f : Addr} {fd : FuncData} (F : L2.FunD K "__contains__" "Roll.__contains__" (defArgs s_Roll_contains) (defBody s_Roll_contains) (defScope s_Roll_contains) [] [] f fd) : FnOk P w K mg base (L2.CX P w) 4 f fd ["self", "value"] (spF K 2 f_Roll_contains) := by
  obtain ⟨fd_grant_error, F_grant_error⟩ := T.e_grant_error
  have G_grant_error : FnOk P w K mg base (L2.CX P w) 3 _ fd_grant_error ["value"] (spF K 1 f_grant_error) := ok_grant_error T F_grant_error
  have b_grant_error : Binds K fd_grant_error ["value"] [] := F_grant_error.bindsN fun _ _ _ _ _ _ us hl => match us, hl with | [_], _ => rfl
  refine fn_ok F sc_Roll_contains (by decide) fun cdv A outer s H E hr => ?_
  have nd := sc_Roll_contains.nd
  exact (ss_one (ss_ret (se_and (se_isN (se_fn G_grant_error (hr.mono (by decide)) (by exact rfl) T.g_grant_error F_grant_error.kp b_grant_error .nil .nil rfl (takes_of rfl rfl rfl rfl) (sa_cons (se_var 1 (pv 1)) sa_nil))) (se_one (se_cmp (op_inAny (room65 hr)) g_in (se_var 1 (pv 1)) (se_fld (c := 0) (k := 1) (se_var 0 (pv 0)) T.cl_Roll T.na_made rfl (by decide +kernel)) rfl)))))
theorem sc_check_member : FnScope ["roll", "grant"] ["roll", "grant"] (defScope s_check_member) := ⟨rfl, rfl, rfl, by decide +kernel, rfl, by decide +kernel, by decide +kernel⟩
theorem ok_check_member (T : Tx K mg) {f : Addr} {fd : FuncData} (F : L2.FunD K "check_member" "check_member" (defArgs s_check_member) (defBody s_check_member) (defScope s_check_member) [] [] f fd) : FnOk P w K mg base (L2.CX P w) 5 f fd ["roll", "grant"] (spF K 2 f_check_member) := by
  obtain ⟨fd_Roll_contains, F_Roll_contains⟩ := T.e_Roll_contains
  have G_Roll_contains : FnOk P w K mg base (L2.CX P w) 4 _ fd_Roll_contains ["self", "value"] (spF K 2 f_Roll_contains) := ok_Roll_contains T F_Roll_contains
  have b_Roll_contains : Binds K fd_Roll_contains ["self", "value"] [] := F_Roll_contains.bindsN fun _ _ _ _ _ _ us hl => match us, hl with | [_, _], _ => rfl
  refine fn_ok F sc_check_member (by decide) fun cdv A outer s H E hr => ?_
  have nd := sc_check_member.nd
  exact (ss_one (ss_if (st_ninOwn G_Roll_contains T.oc_contains T.of_contains (hr.mono (by decide)) b_Roll_contains (se_var 1 (pv 1)) (se_var 0 (pv 0)) rfl) (ss_one ss_never) ss_nil))
theorem sc_check_members : FnScope ["roll", "grants", "grant"] ["roll", "grants"] (defScope s_check_members) := ⟨rfl, rfl, rfl, by decide +kernel, rfl, by decide +kernel, by decide +kernel⟩
theorem ok_check_members (T : Tx K mg) {f : Addr} {fd : FuncData} (F : L2.FunD K "check_members" "check_members" (defArgs s_check_members) (defBody s_check_members) (defScope s_check_members) [] [] f fd) : FnOk P w K mg base (L2.CX P w) 6 f fd ["roll", "grants"] (spF K 2 f_check_members) := by
  obtain ⟨fd_check_member, F_check_member⟩ := T.e_check_member
  have G_check_member : FnOk P w K mg base (L2.CX P w) 5 _ fd_check_member ["roll", "grant"] (spF K 2 f_check_member) := ok_check_member T F_check_member
  have b_check_member : Binds K fd_check_member ["roll", "grant"] [] := F_check_member.bindsN fun _ _ _ _ _ _ us hl => match us, hl with | [_, _], _ => rfl
  refine fn_ok F sc_check_members (by decide) fun cdv A outer s H E hr => ?_
  have nd := sc_check_members.nd
  exact (ss_cons (ss_if (st_not (st_truth (se_isiT (se_var 1 (pv 1)) (by exact rfl) T.n_isinstance (pe_bltn (v := .ty "list") (by exact rfl) T.n_list (by decide +kernel) rfl) (pe_bltn (v := .ty "tuple") (by exact rfl) T.n_tuple (by decide +kernel) rfl) (by decide) (by decide) (pa_cons (se_var 1 (pv 1)) (pa_cons (pe_tup (pa_cons (pe_bltn (v := .ty "list") (by exact rfl) T.n_list (by decide +kernel) rfl) (pa_cons (pe_bltn (v := .ty "tuple") (by exact rfl) T.n_tuple (by decide +kernel) rfl) pa_nil))) pa_nil))))) (ss_one ss_never) ss_nil)
  (ss_one (ss_for (g := .nm 2) (passes_of rfl) rfl (si_v (pv 1)) (pg_name (i := 2) nd rfl (by first | exact Or.inl rfl | exact Or.inr rfl)) (ss_one (ss_expr (se_fn G_check_member (hr.mono (by decide)) (by exact rfl) T.g_check_member F_check_member.kp b_check_member .nil .nil rfl (takes_of rfl rfl rfl rfl) (sa_cons (se_var 0 (pv 0)) (sa_cons (se_var 2 (pv 2)) sa_nil))))))))
theorem sc_Roll_only : FnScope ["self", "grants", "some", "grant"] ["self", "grants"] (defScope s_Roll_only) := ⟨rfl, rfl, rfl, by decide +kernel, rfl, by decide +kernel, by decide +kernel⟩
theorem ok_Roll_only (T : Tx K mg) {f : Addr} {fd : FuncData} (F : L2.FunD K "only" "Roll.only" (defArgs s_Roll_only) (defBody s_Roll_only) (defScope s_Roll_only) [] [] f fd) : FnOk P w K mg base (L2.CX P w) 7 f fd ["self", "grants"] (spF K 2 f_Roll_only) := by
  obtain ⟨fd_check_members, F_check_members⟩ := T.e_check_members
  have G_check_members : FnOk P w K mg base (L2.CX P w) 6 _ fd_check_members ["roll", "grants"] (spF K 2 f_check_members) := ok_check_members T F_check_members
  have b_check_members : Binds K fd_check_members ["roll", "grants"] [] := F_check_members.bindsN fun _ _ _ _ _ _ us hl => match us, hl with | [_, _], _ => rfl
  obtain ⟨fd_Roll_init, F_Roll_init⟩ := T.e_Roll_init
  have J_Roll_init : FnI P w K mg base (L2.CX P w) 5 _ "grants" (spF K 3 f_Roll_init) := ok_Roll_init T F_Roll_init
  refine fn_ok F sc_Roll_only (by decide) fun cdv A outer s H E hr => ?_
  have nd := sc_Roll_only.nd
  exact (ss_cons (ss_expr (se_fn G_check_members (hr.mono (by decide)) (by exact rfl) T.g_check_members F_check_members.kp b_check_members .nil .nil rfl (takes_of rfl rfl rfl rfl) (sa_cons (se_var 0 (pv 0)) (sa_cons (se_var 1 (pv 1)) sa_nil))))
  (ss_cons (ss_lcAsg (own := [("grant", 3)]) (g := .nm 3) (ps_setLc (i := 2) rfl nd rfl rfl (sw_true rfl rfl rfl (by decide +kernel)) (si_e (se_fld (c := 0) (k := 1) (se_var 0 (pv 0)) T.cl_Roll T.na_made rfl (by decide +kernel))) (blkOk_by (N := ["self", "grants", "some", "grant"]) (sc := defScope s_Roll_only) (own := [("grant", 3)]) (by decide +kernel)) (fun _ _ _ _ _ => (pg_name (i := 3) nd rfl (by first | exact Or.inl rfl | exact Or.inr rfl))) (fun _ _ _ _ _ => (pts_one (st_cmp (op_inAny (room65 hr)) g_in (se_var 3 (pv 3)) (se_var 1 (pv 1)) rfl))) (fun _ _ _ _ _ => (se_var 3 (pv 3)))) rfl)
  (ss_one (ss_ret (se_makeS T.mk_Roll J_Roll_init (hr.mono (by decide)) (by exact rfl) T.g_Roll (takes_of rfl rfl rfl rfl) (se_fld (c := 0) (k := 0) (se_var 0 (pv 0)) T.cl_Roll T.na_own rfl (by decide +kernel)) (se_var 2 (pv 2)))))))
theorem sc_Roll_persons : FnScope ["self", "names", "time", "giver", "taker", "level", "passes", "name"] ["self"] (defScope s_Roll_persons) := ⟨rfl, rfl, rfl, by decide +kernel, rfl, by decide +kernel, by decide +kernel⟩
theorem ok_Roll_persons (T : Tx K mg) {f : Addr} {fd : FuncData} (F : L2.FunD K "persons" "Roll.persons" (defArgs s_Roll_persons) (defBody s_Roll_persons) (defScope s_Roll_persons) [] [] f fd) : FnOk P w K mg base (L2.CX P w) 1 f fd ["self"] (spF K 1 f_Roll_persons) := by
  refine fn_ok F sc_Roll_persons (by decide) fun cdv A outer s H E hr => ?_
  have nd := sc_Roll_persons.nd
  exact (ss_cons (ss_asg (i := 1) (ps_set (i := 1) nd rfl (by first | exact Or.inl rfl | exact Or.inr rfl) (se_sortSc2 (own := [("time", 2), ("giver", 3), ("taker", 4), ("level", 5), ("passes", 6), ("name", 7)]) (own1 := [7]) (g := .tp [2, 3, 4, 5, 6]) (g1 := .nm 7) hr (by exact rfl) T.n_sorted (by exact rfl) nd (si_e (se_fld (c := 0) (k := 1) (se_var 0 (pv 0)) T.cl_Roll T.na_made rfl (by decide +kernel))) (blkOk_by (N := ["self", "names", "time", "giver", "taker", "level", "passes", "name"]) (sc := defScope s_Roll_persons) (own := [("time", 2), ("giver", 3), ("taker", 4), ("level", 5), ("passes", 6), ("name", 7)]) (by decide +kernel)) rfl rfl (by decide) (fun _ _ _ _ _ => (pg_tup rfl (pgs_cons (pg_name (i := 2) nd rfl (by first | exact Or.inl rfl | exact Or.inr rfl)) (pgs_cons (pg_name (i := 3) nd rfl (by first | exact Or.inl rfl | exact Or.inr rfl)) (pgs_cons (pg_name (i := 4) nd rfl (by first | exact Or.inl rfl | exact Or.inr rfl)) (pgs_cons (pg_name (i := 5) nd rfl (by first | exact Or.inl rfl | exact Or.inr rfl)) (pgs_cons (pg_name (i := 6) nd rfl (by first | exact Or.inl rfl | exact Or.inr rfl)) pgs_nil))))))) (fun _ _ _ _ _ => (si_e (se_tup (sa_cons (se_var 3 (pv 3)) (sa_cons (se_var 4 (pv 4)) sa_nil))))) (fun _ _ _ _ _ => (pg_name (i := 7) nd rfl (by first | exact Or.inl rfl | exact Or.inr rfl))) (fun _ _ _ _ _ => (se_var 7 (pv 7))))))
  (ss_one (ss_ret (se_callTy call_tuple_of g_tuple (by exact rfl) T.n_tuple (by decide +kernel) (sa_cons (se_comp (own := [("name", 7)]) (g := .nm 7) (by exact rfl) nd (si_vc (i := 1) (by decide) (pv 1)) (blkOk_by (N := ["self", "names", "time", "giver", "taker", "level", "passes", "name"]) (sc := defScope s_Roll_persons) (own := [("name", 7)]) (by decide +kernel)) rfl (fun _ _ _ _ _ => (pg_name (i := 7) nd rfl (by first | exact Or.inl rfl | exact Or.inr rfl))) (fun _ _ _ _ _ => (pts_one (st_cmp (op_notInAny (room65 hr)) g_notIn (se_var 7 (pv 7)) (se_fld (c := 0) (k := 0) (se_var 0 (pv 0)) T.cl_Roll T.na_own rfl (by decide +kernel)) rfl))) (fun _ _ _ _ _ => (se_var 7 (pv 7)))) sa_nil)))))
theorem sc_check_name : FnScope ["name"] ["name"] (defScope s_check_name) := ⟨rfl, rfl, rfl, by decide +kernel, rfl, by decide +kernel, by decide +kernel⟩
theorem ok_check_name (T : Tx K mg) {f : Addr} {fd : FuncData} (F : L2.FunD K "check_name" "check_name" (defArgs s_check_name) (defBody s_check_name) (defScope s_check_name) [] [] f fd) : FnOk P w K mg base (L2.CX P w) 2 f fd ["name"] (spF K 1 f_check_name) := by
  obtain ⟨fd_is_name, F_is_name⟩ := T.e_is_name
  have G_is_name : FnOk P w K mg base (L2.CX P w) 1 _ fd_is_name ["value"] (spF K 1 f_is_name) := ok_is_name T F_is_name
  have b_is_name : Binds K fd_is_name ["value"] [] := F_is_name.bindsN fun _ _ _ _ _ _ us hl => match us, hl with | [_], _ => rfl
  refine fn_ok F sc_check_name (by decide) fun cdv A outer s H E hr => ?_
  have nd := sc_check_name.nd
  exact (ss_one (ss_if (st_not (st_truth (se_fn G_is_name (hr.mono (by decide)) (by exact rfl) T.g_is_name F_is_name.kp b_is_name .nil .nil rfl (takes_of rfl rfl rfl rfl) (sa_cons (se_var 0 (pv 0)) sa_nil)))) (ss_one ss_never) ss_nil))
theorem sc_counting_grants : FnScope ["roll"] ["roll"] (defScope s_counting_grants) := ⟨rfl, rfl, rfl, by decide +kernel, rfl, by decide +kernel, by decide +kernel⟩
theorem ok_counting_grants (T : Tx K mg) {f : Addr} {fd : FuncData} (F : L2.FunD K "counting_grants" "counting_grants" (defArgs s_counting_grants) (defBody s_counting_grants) (defScope s_counting_grants) [] [] f fd) : FnOk P w K mg base (L2.CX P w) 3 f fd ["roll"] (spF K 1 f_counting_grants) := by
  obtain ⟨fd_counts_in, F_counts_in⟩ := T.e_counts_in
  have G_counts_in : FnOk P w K mg base (L2.CX P w) 2 _ fd_counts_in ["owners", "grants"] (spF K 2 f_counts_in) := ok_counts_in T F_counts_in
  have b_counts_in : Binds K fd_counts_in ["owners", "grants"] [] := F_counts_in.bindsN fun _ _ _ _ _ _ us hl => match us, hl with | [_, _], _ => rfl
  obtain ⟨fd_Roll_owners, F_Roll_owners⟩ := T.e_Roll_owners
  have G_Roll_owners : FnOk P w K mg base (L2.CX P w) 1 _ fd_Roll_owners ["self"] (spF K 1 f_Roll_owners) := ok_Roll_owners T F_Roll_owners
  have b_Roll_owners : Binds K fd_Roll_owners ["self"] [] := F_Roll_owners.bindsN fun _ _ _ _ _ _ us hl => match us, hl with | [_], _ => rfl
  obtain ⟨fd_Roll_grants, F_Roll_grants⟩ := T.e_Roll_grants
  have G_Roll_grants : FnOk P w K mg base (L2.CX P w) 1 _ fd_Roll_grants ["self"] (spF K 1 f_Roll_grants) := ok_Roll_grants T F_Roll_grants
  have b_Roll_grants : Binds K fd_Roll_grants ["self"] [] := F_Roll_grants.bindsN fun _ _ _ _ _ _ us hl => match us, hl with | [_], _ => rfl
  refine fn_ok F sc_counting_grants (by decide) fun cdv A outer s H E hr => ?_
  have nd := sc_counting_grants.nd
  exact (ss_one (ss_ret (se_fn G_counts_in (hr.mono (by decide)) (by exact rfl) T.g_counts_in F_counts_in.kp b_counts_in .nil .nil rfl (takes_of rfl rfl rfl rfl) (sa_cons (se_prop (c := 0) G_Roll_owners (hr.mono (by decide)) T.cl_Roll T.pr_owners b_Roll_owners k_Roll_owners (se_var 0 (pv 0))) (sa_cons (se_prop (c := 0) G_Roll_grants (hr.mono (by decide)) T.cl_Roll T.pr_grants b_Roll_grants k_Roll_grants (se_var 0 (pv 0))) sa_nil)))))
theorem sc_taken : FnScope ["roll", "name", "grant"] ["roll", "name"] (defScope s_taken) := ⟨rfl, rfl, rfl, by decide +kernel, rfl, by decide +kernel, by decide +kernel⟩
theorem ok_taken (T : Tx K mg) {f : Addr} {fd : FuncData} (F : L2.FunD K "taken" "taken" (defArgs s_taken) (defBody s_taken) (defScope s_taken) [] [] f fd) : FnOk P w K mg base (L2.CX P w) 4 f fd ["roll", "name"] (spF K 2 f_taken) := by
  obtain ⟨fd_counting_grants, F_counting_grants⟩ := T.e_counting_grants
  have G_counting_grants : FnOk P w K mg base (L2.CX P w) 3 _ fd_counting_grants ["roll"] (spF K 1 f_counting_grants) := ok_counting_grants T F_counting_grants
  have b_counting_grants : Binds K fd_counting_grants ["roll"] [] := F_counting_grants.bindsN fun _ _ _ _ _ _ us hl => match us, hl with | [_], _ => rfl
  refine fn_ok F sc_taken (by decide) fun cdv A outer s H E hr => ?_
  have nd := sc_taken.nd
  exact (ss_one (ss_ret (se_comp (own := [("grant", 2)]) (g := .nm 2) (by exact rfl) nd (si_e (se_fn G_counting_grants (hr.mono (by decide)) (by exact rfl) T.g_counting_grants F_counting_grants.kp b_counting_grants .nil .nil rfl (takes_of rfl rfl rfl rfl) (sa_cons (se_var 0 (pv 0)) sa_nil))) (blkOk_by (N := ["roll", "name", "grant"]) (sc := defScope s_taken) (own := [("grant", 2)]) (by decide +kernel)) rfl (fun _ _ _ _ _ => (pg_name (i := 2) nd rfl (by first | exact Or.inl rfl | exact Or.inr rfl))) (fun _ _ _ _ _ => (pts_one (st_cmp (op_eqA hr.units) g_eq (se_ix (se_var 2 (pv 2)) se_int fun _ _ => rfl) (se_var 1 (pv 1)) (nomark _)))) (fun _ _ _ _ _ => (se_var 2 (pv 2))))))
theorem sc_covers : FnScope ["one", "other"] ["one", "other"] (defScope s_covers) := ⟨rfl, rfl, rfl, by decide +kernel, rfl, by decide +kernel, by decide +kernel⟩
theorem ok_covers (T : Tx K mg) {f : Addr} {fd : FuncData} (F : L2.FunD K "covers" "covers" (defArgs s_covers) (defBody s_covers) (defScope s_covers) [] [] f fd) : FnOk P w K mg base (L2.CX P w) 1 f fd ["one", "other"] (spF K 2 f_covers) := by
  refine fn_ok F sc_covers (by decide) fun cdv A outer s H E hr => ?_
  have nd := sc_covers.nd
  exact (ss_one (ss_ret (se_and (se_cmp (op_geD hr.units) g_ge (se_ix (se_var 0 (pv 0)) se_int fun _ _ => rfl) (se_ix (se_var 1 (pv 1)) se_int fun _ _ => rfl) (nomark _)) (se_one (se_cmp (op_geD hr.units) g_ge (se_ix (se_var 0 (pv 0)) se_int fun _ _ => rfl) (se_ix (se_var 1 (pv 1)) se_int fun _ _ => rfl) (nomark _))))))
theorem sc_maximal : FnScope ["powers", "found", "one", "other"] ["powers"] (defScope s_maximal) := ⟨rfl, rfl, rfl, by decide +kernel, rfl, by decide +kernel, by decide +kernel⟩
theorem ok_maximal (T : Tx K mg) {f : Addr} {fd : FuncData} (F : L2.FunD K "maximal" "maximal" (defArgs s_maximal) (defBody s_maximal) (defScope s_maximal) [] [] f fd) : FnOk P w K mg base (L2.CX P w) 2 f fd ["powers"] (spF K 1 f_maximal) := by
  obtain ⟨fd_covers, F_covers⟩ := T.e_covers
  have G_covers : FnOk P w K mg base (L2.CX P w) 1 _ fd_covers ["one", "other"] (spF K 2 f_covers) := ok_covers T F_covers
  have b_covers : Binds K fd_covers ["one", "other"] [] := F_covers.bindsN fun _ _ _ _ _ _ us hl => match us, hl with | [_, _], _ => rfl
  refine fn_ok F sc_maximal (by decide) fun cdv A outer s H E hr => ?_
  have nd := sc_maximal.nd
  exact (ss_cons (ss_asg (i := 1) (ps_set (i := 1) nd rfl (by first | exact Or.inl rfl | exact Or.inr rfl) (se_sortSetP hr (by exact rfl) (by exact rfl) T.n_sorted (by exact rfl) T.n_set (sa_cons (se_var 0 (pv 0)) sa_nil))))
  (ss_one (ss_ret (se_comp (own := [("one", 2)]) (g := .nm 2) (by exact rfl) nd (si_vc (i := 1) (by decide) (pv 1)) (blkOk_by (N := ["powers", "found", "one", "other"]) (sc := defScope s_maximal) (own := [("one", 2)]) (by decide +kernel)) rfl (fun _ _ _ _ _ => (pg_name (i := 2) nd rfl (by first | exact Or.inl rfl | exact Or.inr rfl))) (fun _ _ _ _ _ => (pts_one (st_not (st_truth (se_call (cr_any (by exact rfl)) g_any (by exact rfl) T.n_any (by decide +kernel) (sa_cons (se_comp (own := [("other", 3)]) (g := .nm 3) (by exact rfl) nd (si_vc (i := 1) (by decide) (pv 1)) (by refine blkOk_by ?_; kernel_rfl) rfl (fun _ _ _ _ _ => (pg_name (i := 3) nd rfl (by first | exact Or.inl rfl | exact Or.inr rfl))) (fun _ _ _ _ _ => pts_yes) (fun _ _ _ _ _ => (se_and (se_cmp (op_neA hr.units) g_ne (se_var 3 (pv 3)) (se_var 2 (pv 2)) (nomark _)) (se_one (se_fn G_covers (hr.mono (by decide)) (by exact rfl) T.g_covers F_covers.kp b_covers .nil .nil rfl takes0 (sa_cons (se_var 3 (pv 3)) (sa_cons (se_var 2 (pv 2)) sa_nil))))))) sa_nil)))))) (fun _ _ _ _ _ => (se_var 2 (pv 2)))))))
theorem sc_powers_in : FnScope ["grants", "at", "grant"] ["grants", "at"] (defScope s_powers_in) := ⟨rfl, rfl, rfl, by decide +kernel, rfl, by decide +kernel, by decide +kernel⟩
theorem ok_powers_in (T : Tx K mg) {f : Addr} {fd : FuncData} (F : L2.FunD K "powers_in" "powers_in" (defArgs s_powers_in) (defBody s_powers_in) (defScope s_powers_in) [] [] f fd) : FnOk P w K mg base (L2.CX P w) 3 f fd ["grants", "at"] (spF K 2 f_powers_in) := by
  obtain ⟨fd_maximal, F_maximal⟩ := T.e_maximal
  have G_maximal : FnOk P w K mg base (L2.CX P w) 2 _ fd_maximal ["powers"] (spF K 1 f_maximal) := ok_maximal T F_maximal
  have b_maximal : Binds K fd_maximal ["powers"] [] := F_maximal.bindsN fun _ _ _ _ _ _ us hl => match us, hl with | [_], _ => rfl
  refine fn_ok F sc_powers_in (by decide) fun cdv A outer s H E hr => ?_
  have nd := sc_powers_in.nd
  exact (ss_one (ss_ret (se_fn G_maximal (hr.mono (by decide)) (by exact rfl) T.g_maximal F_maximal.kp b_maximal .nil .nil rfl (takes_of rfl rfl rfl rfl) (sa_cons (se_comp (own := [("grant", 2)]) (g := .nm 2) (by exact rfl) nd (si_vc (i := 0) (by decide) (pv 0)) (blkOk_by (N := ["grants", "at", "grant"]) (sc := defScope s_powers_in) (own := [("grant", 2)]) (by decide +kernel)) rfl (fun _ _ _ _ _ => (pg_name (i := 2) nd rfl (by first | exact Or.inl rfl | exact Or.inr rfl))) (fun _ _ _ _ _ => (pts_one (swp (sw_or (st_isN (se_var 1 (pv 1))) (sw_or1 (st_cmp (op_leD hr.units) g_le (se_ix (se_var 2 (pv 2)) se_int fun _ _ => rfl) (se_var 1 (pv 1)) (nomark _))))))) (fun _ _ _ _ _ => (se_sl (se_var 2 (pv 2)) (so_some se_int) so_none))) sa_nil))))
theorem sc_steps_of : FnScope ["roll", "name", "grants", "steps", "time", "powers", "grant"] ["roll", "name"] (defScope s_steps_of) := ⟨rfl, rfl, rfl, by decide +kernel, rfl, by decide +kernel, by decide +kernel⟩
theorem ok_steps_of (T : Tx K mg) {f : Addr} {fd : FuncData} (F : L2.FunD K "steps_of" "steps_of" (defArgs s_steps_of) (defBody s_steps_of) (defScope s_steps_of) [] [] f fd) : FnOk P w K mg base (L2.CX P w) 5 f fd ["roll", "name"] (spF K 2 f_steps_of) := by
  obtain ⟨fd_check_name, F_check_name⟩ := T.e_check_name
  have G_check_name : FnOk P w K mg base (L2.CX P w) 2 _ fd_check_name ["name"] (spF K 1 f_check_name) := ok_check_name T F_check_name
  have b_check_name : Binds K fd_check_name ["name"] [] := F_check_name.bindsN fun _ _ _ _ _ _ us hl => match us, hl with | [_], _ => rfl
  obtain ⟨fd_taken, F_taken⟩ := T.e_taken
  have G_taken : FnOk P w K mg base (L2.CX P w) 4 _ fd_taken ["roll", "name"] (spF K 2 f_taken) := ok_taken T F_taken
  have b_taken : Binds K fd_taken ["roll", "name"] [] := F_taken.bindsN fun _ _ _ _ _ _ us hl => match us, hl with | [_, _], _ => rfl
  obtain ⟨fd_powers_in, F_powers_in⟩ := T.e_powers_in
  have G_powers_in : FnOk P w K mg base (L2.CX P w) 3 _ fd_powers_in ["grants", "at"] (spF K 2 f_powers_in) := ok_powers_in T F_powers_in
  have b_powers_in : Binds K fd_powers_in ["grants", "at"] [] := F_powers_in.bindsN fun _ _ _ _ _ _ us hl => match us, hl with | [_, _], _ => rfl
  refine fn_ok F sc_steps_of (by decide) fun cdv A outer s H E hr => ?_
  have nd := sc_steps_of.nd
  exact (ss_cons (ss_expr (se_fn G_check_name (hr.mono (by decide)) (by exact rfl) T.g_check_name F_check_name.kp b_check_name .nil .nil rfl (takes_of rfl rfl rfl rfl) (sa_cons (se_var 1 (pv 1)) sa_nil)))
  (ss_cons (ss_asg (i := 2) (ps_set (i := 2) nd rfl (by first | exact Or.inl rfl | exact Or.inr rfl) (se_fn G_taken (hr.mono (by decide)) (by exact rfl) T.g_taken F_taken.kp b_taken .nil .nil rfl (takes_of rfl rfl rfl rfl) (sa_cons (se_var 0 (pv 0)) (sa_cons (se_var 1 (pv 1)) sa_nil)))))
  (ss_cons (ss_own (i := 3) (ps_set (i := 3) nd rfl (by first | exact Or.inl rfl | exact Or.inr rfl) (se_lst sa_nil)))
  (ss_cons (ss_for (g := .nm 4) (passes_of rfl) rfl (si_e (se_sortSc1 (own := [("grant", 6)]) (g := .nm 6) hr (by exact rfl) T.n_sorted (by exact rfl) nd (si_vc (i := 2) (by decide) (pv 2)) (blkOk_by (N := ["roll", "name", "grants", "steps", "time", "powers", "grant"]) (sc := defScope s_steps_of) (own := [("grant", 6)]) (by decide +kernel)) rfl (fun _ _ _ _ _ => (pg_name (i := 6) nd rfl (by first | exact Or.inl rfl | exact Or.inr rfl))) (fun _ _ _ _ _ => pts_yes) (fun _ _ _ _ _ => (se_ix (se_var 6 (pv 6)) se_int fun _ _ => rfl)))) (pg_name (i := 4) nd rfl (by first | exact Or.inl rfl | exact Or.inr rfl)) (ss_cons (ss_asg (i := 5) (ps_set (i := 5) nd rfl (by first | exact Or.inl rfl | exact Or.inr rfl) (se_fn G_powers_in (hr.mono (by decide)) (by exact rfl) T.g_powers_in F_powers_in.kp b_powers_in .nil .nil rfl (takes_of rfl rfl rfl rfl) (sa_cons (se_var 2 (pv 2)) (sa_cons (se_var 4 (pv 4)) sa_nil)))))
  (ss_one (ss_if (swp (sw_or (st_cmp (op_eqA hr.units) g_eq (se_var 3 (pv 3)) (se_lst sa_nil) (nomark _)) (sw_or1 (st_cmp (op_neA hr.units) g_ne (se_var 5 (pv 5)) (se_ix (se_ix (se_var 3 (pv 3)) (se_neg se_int) fun _ _ => rfl) se_int fun _ _ => rfl) (nomark _))))) (ss_one (ss_app (i := 3) (ps_expr (pe_bm PySem.F.plainAttrs_list PySem.F.slot_list_append PySem.F.type_list_append mt_append (pv 3) (pa_cons (se_tup (sa_cons (se_var 4 (pv 4)) (sa_cons (se_var 5 (pv 5)) sa_nil))) pa_nil))))) ss_nil))))
  (ss_one (ss_retV (pv 3)))))))
theorem sc_law_is_same : FnScope ["one", "other", "names", "name"] ["one", "other"] (defScope s_law_is_same) := ⟨rfl, rfl, rfl, by decide +kernel, rfl, by decide +kernel, by decide +kernel⟩
theorem ok_law_is_same (T : Tx K mg) {f : Addr} {fd : FuncData} (F : L2.FunD K "_law_is_same" "_law_is_same" (defArgs s_law_is_same) (defBody s_law_is_same) (defScope s_law_is_same) [] [] f fd) : FnOk P w K mg base (L2.CX P w) 6 f fd ["one", "other"] (spF K 2 f_law_is_same) := by
  obtain ⟨fd_Roll_persons, F_Roll_persons⟩ := T.e_Roll_persons
  have G_Roll_persons : FnOk P w K mg base (L2.CX P w) 1 _ fd_Roll_persons ["self"] (spF K 1 f_Roll_persons) := ok_Roll_persons T F_Roll_persons
  have b_Roll_persons : Binds K fd_Roll_persons ["self"] [] := F_Roll_persons.bindsN fun _ _ _ _ _ _ us hl => match us, hl with | [_], _ => rfl
  obtain ⟨fd_steps_of, F_steps_of⟩ := T.e_steps_of
  have G_steps_of : FnOk P w K mg base (L2.CX P w) 5 _ fd_steps_of ["roll", "name"] (spF K 2 f_steps_of) := ok_steps_of T F_steps_of
  have b_steps_of : Binds K fd_steps_of ["roll", "name"] [] := F_steps_of.bindsN fun _ _ _ _ _ _ us hl => match us, hl with | [_, _], _ => rfl
  refine fn_ok F sc_law_is_same (by decide) fun cdv A outer s H E hr => ?_
  have nd := sc_law_is_same.nd
  exact (ss_cons (ss_asg (i := 2) (ps_set (i := 2) nd rfl (by first | exact Or.inl rfl | exact Or.inr rfl) (se_sortSet hr (by exact rfl) (by exact rfl) T.n_sorted (by exact rfl) T.n_set (sa_cons (se_op op_addAny g_add (se_prop (c := 0) G_Roll_persons (hr.mono (by decide)) T.cl_Roll T.pr_persons b_Roll_persons k_Roll_persons (se_var 0 (pv 0))) (se_prop (c := 0) G_Roll_persons (hr.mono (by decide)) T.cl_Roll T.pr_persons b_Roll_persons k_Roll_persons (se_var 1 (pv 1)))) sa_nil))))
  (ss_one (ss_ret (se_cmp (op_eqA hr.units) g_eq (se_comp (own := [("name", 3)]) (g := .nm 3) (by exact rfl) nd (si_vc (i := 2) (by decide) (pv 2)) (blkOk_by (N := ["one", "other", "names", "name"]) (sc := defScope s_law_is_same) (own := [("name", 3)]) (by decide +kernel)) rfl (fun _ _ _ _ _ => (pg_name (i := 3) nd rfl (by first | exact Or.inl rfl | exact Or.inr rfl))) (fun _ _ _ _ _ => (pts_one (st_cmp (op_neA hr.units) g_ne (se_fn G_steps_of (hr.mono (by decide)) (by exact rfl) T.g_steps_of F_steps_of.kp b_steps_of .nil .nil rfl takes0 (sa_cons (se_var 0 (pv 0)) (sa_cons (se_var 3 (pv 3)) sa_nil))) (se_fn G_steps_of (hr.mono (by decide)) (by exact rfl) T.g_steps_of F_steps_of.kp b_steps_of .nil .nil rfl takes0 (sa_cons (se_var 1 (pv 1)) (sa_cons (se_var 3 (pv 3)) sa_nil))) (nomark _)))) (fun _ _ _ _ _ => (se_var 3 (pv 3)))) (se_lst sa_nil) (nomark _)))))
theorem sc_chain_in : FnScope ["owners", "grants", "grant", "least", "other", "found", "earlier"] ["owners", "grants", "grant"] (defScope s_chain_in) := ⟨rfl, rfl, rfl, by decide +kernel, rfl, by decide +kernel, by decide +kernel⟩
theorem ok_chain_in (T : Tx K mg) {f : Addr} {fd : FuncData} (F : L2.FunD K "chain_in" "chain_in" (defArgs s_chain_in) (defBody s_chain_in) (defScope s_chain_in) [] [] f fd) : FnOk P w K mg base (L2.CX P w) 2 f fd ["owners", "grants", "grant"] (spF K 3 f_chain_in) := by
  obtain ⟨fd_is_support, F_is_support⟩ := T.e_is_support
  have G_is_support : FnOk P w K mg base (L2.CX P w) 1 _ fd_is_support ["first", "second"] (spF K 2 f_is_support) := ok_is_support T F_is_support
  have b_is_support : Binds K fd_is_support ["first", "second"] [] := F_is_support.bindsN fun _ _ _ _ _ _ us hl => match us, hl with | [_, _], _ => rfl
  refine fn_ok F sc_chain_in (by decide) fun cdv A outer s H E hr => ?_
  have nd := sc_chain_in.nd
  exact (ss_cons (ss_own (i := 3) (ps_set (i := 3) nd rfl (by first | exact Or.inl rfl | exact Or.inr rfl) se_dnew))
  (ss_cons (ss_for (g := .nm 4) (passes_of rfl) rfl (si_e (se_call (cr_sortD hr) g_sort (by exact rfl) T.n_sorted (by decide +kernel) (sa_cons (se_var 1 (pv 1)) sa_nil))) (pg_name (i := 4) nd rfl (by first | exact Or.inl rfl | exact Or.inr rfl)) (ss_cons (ss_lcOwnD (own := [("earlier", 6)]) (g := .nm 6) (ps_setLc (i := 5) rfl nd rfl rfl (sw_true rfl rfl rfl (by decide +kernel)) (si_k (i := 3) (by decide) (pv 3)) (blkOk_by (N := ["owners", "grants", "grant", "least", "other", "found", "earlier"]) (sc := defScope s_chain_in) (own := [("earlier", 6)]) (by decide +kernel)) (fun _ _ _ _ _ => (pg_name (i := 6) nd rfl (by first | exact Or.inl rfl | exact Or.inr rfl))) (fun _ _ _ _ _ => (pts_one (st_truth (se_fn G_is_support (hr.mono (by decide)) (by exact rfl) T.g_is_support F_is_support.kp b_is_support .nil .nil rfl takes0 (sa_cons (se_var 6 (pv 6)) (sa_cons (se_var 4 (pv 4)) sa_nil)))))) (fun _ _ _ _ _ => (se_op op_addAny g_add (se_dk hr (pv 3) (se_var 6 (pv 6)) fun _ _ => rfl) (se_lst (sa_cons (se_var 4 (pv 4)) sa_nil))))) rfl)
  (ss_cons (ss_if (st_cmp (op_inAny (room65 hr)) g_in (se_ix (se_var 4 (pv 4)) se_int fun _ _ => rfl) (se_var 0 (pv 0)) rfl) (ss_one (ss_app (i := 5) (ps_expr (pe_bm PySem.F.plainAttrs_list PySem.F.slot_list_append PySem.F.type_list_append mt_append (pv 5) (pa_cons (se_lst (sa_cons (se_var 4 (pv 4)) sa_nil)) pa_nil))))) ss_nil)
  (ss_one (ss_if (st_cmp (op_neA hr.units) g_ne (se_var 5 (pv 5)) (se_lst sa_nil) (nomark _)) (ss_one (ss_dput hr (pv 3) (se_var 4 (pv 4)) (se_call (cr_minD hr (by exact rfl)) g_min (by exact rfl) T.n_min (by decide +kernel) (sa_cons (se_var 5 (pv 5)) sa_nil)) rfl)) ss_nil)))))
  (ss_one (ss_ret (se_get hr (pv 3) (se_var 2 (pv 2)) ⟨rfl, rfl, rfl, rfl⟩)))))
theorem sc_useful_paper : FnScope ["roll", "grant", "rest", "chain"] ["roll", "grant"] (defScope s_useful_paper) := ⟨rfl, rfl, rfl, by decide +kernel, rfl, by decide +kernel, by decide +kernel⟩
theorem ok_useful_paper (T : Tx K mg) {f : Addr} {fd : FuncData} (F : L2.FunD K "useful_paper" "useful_paper" (defArgs s_useful_paper) (defBody s_useful_paper) (defScope s_useful_paper) [] [] f fd) : FnOk P w K mg base (L2.CX P w) 7 f fd ["roll", "grant"] (spF K 2 f_useful_paper) := by
  obtain ⟨fd_check_members, F_check_members⟩ := T.e_check_members
  have G_check_members : FnOk P w K mg base (L2.CX P w) 6 _ fd_check_members ["roll", "grants"] (spF K 2 f_check_members) := ok_check_members T F_check_members
  have b_check_members : Binds K fd_check_members ["roll", "grants"] [] := F_check_members.bindsN fun _ _ _ _ _ _ us hl => match us, hl with | [_, _], _ => rfl
  obtain ⟨fd_rest_for, F_rest_for⟩ := T.e_rest_for
  have G_rest_for : FnOk P w K mg base (L2.CX P w) 3 _ fd_rest_for ["roll", "grant"] (spF K 2 f_rest_for) := ok_rest_for T F_rest_for
  have b_rest_for : Binds K fd_rest_for ["roll", "grant"] [] := F_rest_for.bindsN fun _ _ _ _ _ _ us hl => match us, hl with | [_, _], _ => rfl
  obtain ⟨fd_chain_in, F_chain_in⟩ := T.e_chain_in
  have G_chain_in : FnOk P w K mg base (L2.CX P w) 2 _ fd_chain_in ["owners", "grants", "grant"] (spF K 3 f_chain_in) := ok_chain_in T F_chain_in
  have b_chain_in : Binds K fd_chain_in ["owners", "grants", "grant"] [] := F_chain_in.bindsN fun _ _ _ _ _ _ us hl => match us, hl with | [_, _, _], _ => rfl
  obtain ⟨fd_Roll_owners, F_Roll_owners⟩ := T.e_Roll_owners
  have G_Roll_owners : FnOk P w K mg base (L2.CX P w) 1 _ fd_Roll_owners ["self"] (spF K 1 f_Roll_owners) := ok_Roll_owners T F_Roll_owners
  have b_Roll_owners : Binds K fd_Roll_owners ["self"] [] := F_Roll_owners.bindsN fun _ _ _ _ _ _ us hl => match us, hl with | [_], _ => rfl
  obtain ⟨fd_counts_in, F_counts_in⟩ := T.e_counts_in
  have G_counts_in : FnOk P w K mg base (L2.CX P w) 2 _ fd_counts_in ["owners", "grants"] (spF K 2 f_counts_in) := ok_counts_in T F_counts_in
  have b_counts_in : Binds K fd_counts_in ["owners", "grants"] [] := F_counts_in.bindsN fun _ _ _ _ _ _ us hl => match us, hl with | [_, _], _ => rfl
  refine fn_ok F sc_useful_paper (by decide) fun cdv A outer s H E hr => ?_
  have nd := sc_useful_paper.nd
  exact (ss_cons (ss_expr (se_fn G_check_members (hr.mono (by decide)) (by exact rfl) T.g_check_members F_check_members.kp b_check_members .nil .nil rfl (takes_of rfl rfl rfl rfl) (sa_cons (se_var 0 (pv 0)) (sa_cons (se_lst (sa_cons (se_var 1 (pv 1)) sa_nil)) sa_nil))))
  (ss_cons (ss_asg (i := 2) (ps_set (i := 2) nd rfl (by first | exact Or.inl rfl | exact Or.inr rfl) (se_fn G_rest_for (hr.mono (by decide)) (by exact rfl) T.g_rest_for F_rest_for.kp b_rest_for .nil .nil rfl (takes_of rfl rfl rfl rfl) (sa_cons (se_var 0 (pv 0)) (sa_cons (se_var 1 (pv 1)) sa_nil)))))
  (ss_cons (ss_asg (i := 3) (ps_set (i := 3) nd rfl (by first | exact Or.inl rfl | exact Or.inr rfl) (se_fn G_chain_in (hr.mono (by decide)) (by exact rfl) T.g_chain_in F_chain_in.kp b_chain_in .nil .nil rfl (takes_of rfl rfl rfl rfl) (sa_cons (se_prop (c := 0) G_Roll_owners (hr.mono (by decide)) T.cl_Roll T.pr_owners b_Roll_owners k_Roll_owners (se_var 0 (pv 0))) (sa_cons (se_var 2 (pv 2)) (sa_cons (se_var 1 (pv 1)) sa_nil))))))
  (ss_one (ss_ret (se_ifExp (st_isN (se_var 3 (pv 3))) (se_tup (sa_cons se_str (sa_cons (se_fn G_counts_in (hr.mono (by decide)) (by exact rfl) T.g_counts_in F_counts_in.kp b_counts_in .nil .nil rfl (takes_of rfl rfl rfl rfl) (sa_cons (se_prop (c := 0) G_Roll_owners (hr.mono (by decide)) T.cl_Roll T.pr_owners b_Roll_owners k_Roll_owners (se_var 0 (pv 0))) (sa_cons (se_var 2 (pv 2)) sa_nil))) sa_nil))) (se_tup (sa_cons se_str (sa_cons (se_var 3 (pv 3)) sa_nil)))))))))
theorem sc_law_matters : FnScope ["roll", "entry", "word", "chain", "full", "less", "one"] ["roll", "entry"] (defScope s_law_matters) := ⟨rfl, rfl, rfl, by decide +kernel, rfl, by decide +kernel, by decide +kernel⟩
theorem ok_law_matters (T : Tx K mg) {f : Addr} {fd : FuncData} (F : L2.FunD K "_law_matters" "_law_matters" (defArgs s_law_matters) (defBody s_law_matters) (defScope s_law_matters) [] [] f fd) : FnOk P w K mg base (L2.CX P w) 8 f fd ["roll", "entry"] (spF K 2 f_law_matters) := by
  obtain ⟨fd_useful_paper, F_useful_paper⟩ := T.e_useful_paper
  have G_useful_paper : FnOk P w K mg base (L2.CX P w) 7 _ fd_useful_paper ["roll", "grant"] (spF K 2 f_useful_paper) := ok_useful_paper T F_useful_paper
  have b_useful_paper : Binds K fd_useful_paper ["roll", "grant"] [] := F_useful_paper.bindsN fun _ _ _ _ _ _ us hl => match us, hl with | [_, _], _ => rfl
  obtain ⟨fd_Roll_only, F_Roll_only⟩ := T.e_Roll_only
  have G_Roll_only : FnOk P w K mg base (L2.CX P w) 7 _ fd_Roll_only ["self", "grants"] (spF K 2 f_Roll_only) := ok_Roll_only T F_Roll_only
  have b_Roll_only : Binds K fd_Roll_only ["self", "grants"] [] := F_Roll_only.bindsN fun _ _ _ _ _ _ us hl => match us, hl with | [_, _], _ => rfl
  obtain ⟨fd_steps_of, F_steps_of⟩ := T.e_steps_of
  have G_steps_of : FnOk P w K mg base (L2.CX P w) 5 _ fd_steps_of ["roll", "name"] (spF K 2 f_steps_of) := ok_steps_of T F_steps_of
  have b_steps_of : Binds K fd_steps_of ["roll", "name"] [] := F_steps_of.bindsN fun _ _ _ _ _ _ us hl => match us, hl with | [_, _], _ => rfl
  refine fn_ok F sc_law_matters (by decide) fun cdv A outer s H E hr => ?_
  have nd := sc_law_matters.nd
  exact (ss_cons (ss_unp (g := .tp [2, 3]) (se_fn G_useful_paper (hr.mono (by decide)) (by exact rfl) T.g_useful_paper F_useful_paper.kp b_useful_paper .nil .nil rfl (takes_of rfl rfl rfl rfl) (sa_cons (se_var 0 (pv 0)) (sa_cons (se_var 1 (pv 1)) sa_nil))) (pg_tup rfl (pgs_cons (pg_name (i := 2) nd rfl (by first | exact Or.inl rfl | exact Or.inr rfl)) (pgs_cons (pg_name (i := 3) nd rfl (by first | exact Or.inl rfl | exact Or.inr rfl)) pgs_nil))))
  (ss_cons (ss_if (st_cmp (op_neA hr.units) g_ne (se_var 2 (pv 2)) se_str (nomark _)) (ss_one (ss_ret se_bl)) ss_nil)
  (ss_cons (ss_par (i := 4) (j := 5) rfl nd rfl rfl (by decide) rfl rfl (sa_cons (se_meth G_Roll_only (hr.mono (by decide)) T.cl_Roll T.me_only b_Roll_only rfl (by decide) (se_var 0 (pv 0)) (sa_cons (se_var 3 (pv 3)) sa_nil)) (sa_cons (se_meth G_Roll_only (hr.mono (by decide)) T.cl_Roll T.me_only b_Roll_only rfl (by decide) (se_var 0 (pv 0)) (sa_cons (se_comp (own := [("one", 6)]) (g := .nm 6) (by exact rfl) nd (si_vc (i := 3) (by decide) (pv 3)) (blkOk_by (N := ["roll", "entry", "word", "chain", "full", "less", "one"]) (sc := defScope s_law_matters) (own := [("one", 6)]) (by decide +kernel)) rfl (fun _ _ _ _ _ => (pg_name (i := 6) nd rfl (by first | exact Or.inl rfl | exact Or.inr rfl))) (fun _ _ _ _ _ => (pts_one (st_cmp (op_neA hr.units) g_ne (se_var 6 (pv 6)) (se_var 1 (pv 1)) (nomark _)))) (fun _ _ _ _ _ => (se_var 6 (pv 6)))) sa_nil)) sa_nil)))
  (ss_one (ss_ret (se_cmp (op_neA hr.units) g_ne (se_fn G_steps_of (hr.mono (by decide)) (by exact rfl) T.g_steps_of F_steps_of.kp b_steps_of .nil .nil rfl (takes_of rfl rfl rfl rfl) (sa_cons (se_var 4 (pv 4)) (sa_cons (se_ix (se_var 1 (pv 1)) se_int fun _ _ => rfl) sa_nil))) (se_fn G_steps_of (hr.mono (by decide)) (by exact rfl) T.g_steps_of F_steps_of.kp b_steps_of .nil .nil rfl (takes_of rfl rfl rfl rfl) (sa_cons (se_var 5 (pv 5)) (sa_cons (se_ix (se_var 1 (pv 1)) se_int fun _ _ => rfl) sa_nil))) (nomark _)))))))
theorem sc_check_owners_cores : FnScope ["one", "other"] ["one", "other"] (defScope s_check_owners_cores) := ⟨rfl, rfl, rfl, by decide +kernel, rfl, by decide +kernel, by decide +kernel⟩
theorem ok_check_owners_cores (T : Tx K mg) {f : Addr} {fd : FuncData} (F : L2.FunD K "check_owners" "check_owners" (defArgs s_check_owners_cores) (defBody s_check_owners_cores) (defScope s_check_owners_cores) [] [] f fd) : FnOk P w K mg base (L2.CX P w) 3 f fd ["one", "other"] (spF K 2 f_check_owners_cores) := by
  obtain ⟨fd_Roll_owners, F_Roll_owners⟩ := T.e_Roll_owners
  have G_Roll_owners : FnOk P w K mg base (L2.CX P w) 1 _ fd_Roll_owners ["self"] (spF K 1 f_Roll_owners) := ok_Roll_owners T F_Roll_owners
  have b_Roll_owners : Binds K fd_Roll_owners ["self"] [] := F_Roll_owners.bindsN fun _ _ _ _ _ _ us hl => match us, hl with | [_], _ => rfl
  refine fn_ok F sc_check_owners_cores (by decide) fun cdv A outer s H E hr => ?_
  have nd := sc_check_owners_cores.nd
  exact (ss_one (ss_if (st_cmp (op_neA hr.units) g_ne (se_prop (c := 0) G_Roll_owners (hr.mono (by decide)) T.cl_Roll T.pr_owners b_Roll_owners k_Roll_owners (se_var 0 (pv 0))) (se_prop (c := 0) G_Roll_owners (hr.mono (by decide)) T.cl_Roll T.pr_owners b_Roll_owners k_Roll_owners (se_var 1 (pv 1))) (nomark _)) (ss_one ss_never) ss_nil))
theorem sc_gives_no_more : FnScope ["one", "other", "grant"] ["one", "other"] (defScope s_gives_no_more) := ⟨rfl, rfl, rfl, by decide +kernel, rfl, by decide +kernel, by decide +kernel⟩
theorem ok_gives_no_more (T : Tx K mg) {f : Addr} {fd : FuncData} (F : L2.FunD K "gives_no_more" "gives_no_more" (defArgs s_gives_no_more) (defBody s_gives_no_more) (defScope s_gives_no_more) [] [] f fd) : FnOk P w K mg base (L2.CX P w) 6 f fd ["one", "other"] (spF K 2 f_gives_no_more) := by
  obtain ⟨fd_check_owners_cores, F_check_owners_cores⟩ := T.e_check_owners_cores
  have G_check_owners_cores : FnOk P w K mg base (L2.CX P w) 3 _ fd_check_owners_cores ["one", "other"] (spF K 2 f_check_owners_cores) := ok_check_owners_cores T F_check_owners_cores
  have b_check_owners_cores : Binds K fd_check_owners_cores ["one", "other"] [] := F_check_owners_cores.bindsN fun _ _ _ _ _ _ us hl => match us, hl with | [_, _], _ => rfl
  obtain ⟨fd_core, F_core⟩ := T.e_core
  have G_core : FnOk P w K mg base (L2.CX P w) 5 _ fd_core ["roll"] (spF K 1 f_core) := ok_core T F_core
  have b_core : Binds K fd_core ["roll"] [] := F_core.bindsN fun _ _ _ _ _ _ us hl => match us, hl with | [_], _ => rfl
  obtain ⟨fd_Roll_grants, F_Roll_grants⟩ := T.e_Roll_grants
  have G_Roll_grants : FnOk P w K mg base (L2.CX P w) 1 _ fd_Roll_grants ["self"] (spF K 1 f_Roll_grants) := ok_Roll_grants T F_Roll_grants
  have b_Roll_grants : Binds K fd_Roll_grants ["self"] [] := F_Roll_grants.bindsN fun _ _ _ _ _ _ us hl => match us, hl with | [_], _ => rfl
  obtain ⟨fd_chain_in, F_chain_in⟩ := T.e_chain_in
  have G_chain_in : FnOk P w K mg base (L2.CX P w) 2 _ fd_chain_in ["owners", "grants", "grant"] (spF K 3 f_chain_in) := ok_chain_in T F_chain_in
  have b_chain_in : Binds K fd_chain_in ["owners", "grants", "grant"] [] := F_chain_in.bindsN fun _ _ _ _ _ _ us hl => match us, hl with | [_, _, _], _ => rfl
  obtain ⟨fd_Roll_owners, F_Roll_owners⟩ := T.e_Roll_owners
  have G_Roll_owners : FnOk P w K mg base (L2.CX P w) 1 _ fd_Roll_owners ["self"] (spF K 1 f_Roll_owners) := ok_Roll_owners T F_Roll_owners
  have b_Roll_owners : Binds K fd_Roll_owners ["self"] [] := F_Roll_owners.bindsN fun _ _ _ _ _ _ us hl => match us, hl with | [_], _ => rfl
  obtain ⟨fd_rest_for, F_rest_for⟩ := T.e_rest_for
  have G_rest_for : FnOk P w K mg base (L2.CX P w) 3 _ fd_rest_for ["roll", "grant"] (spF K 2 f_rest_for) := ok_rest_for T F_rest_for
  have b_rest_for : Binds K fd_rest_for ["roll", "grant"] [] := F_rest_for.bindsN fun _ _ _ _ _ _ us hl => match us, hl with | [_, _], _ => rfl
  refine fn_ok F sc_gives_no_more (by decide) fun cdv A outer s H E hr => ?_
  have nd := sc_gives_no_more.nd
  exact (ss_cons (ss_expr (se_fn G_check_owners_cores (hr.mono (by decide)) (by exact rfl) T.g_check_owners_cores F_check_owners_cores.kp b_check_owners_cores .nil .nil rfl (takes_of rfl rfl rfl rfl) (sa_cons (se_var 0 (pv 0)) (sa_cons (se_var 1 (pv 1)) sa_nil))))
  (ss_cons (ss_for (g := .nm 2) (passes_of rfl) rfl (si_e (se_fn G_core (hr.mono (by decide)) (by exact rfl) T.g_core F_core.kp b_core .nil .nil rfl (takes_of rfl rfl rfl rfl) (sa_cons (se_var 0 (pv 0)) sa_nil))) (pg_name (i := 2) nd rfl (by first | exact Or.inl rfl | exact Or.inr rfl)) (ss_one (ss_if (st_cmp (op_notInAny (room65 hr)) g_notIn (se_var 2 (pv 2)) (se_prop (c := 0) G_Roll_grants (hr.mono (by decide)) T.cl_Roll T.pr_grants b_Roll_grants k_Roll_grants (se_var 1 (pv 1))) rfl) (ss_one (ss_ret (se_call (cr_sortD hr) g_sort (by exact rfl) T.n_sorted (by decide +kernel) (sa_cons (se_fn G_chain_in (hr.mono (by decide)) (by exact rfl) T.g_chain_in F_chain_in.kp b_chain_in .nil .nil rfl (takes_of rfl rfl rfl rfl) (sa_cons (se_prop (c := 0) G_Roll_owners (hr.mono (by decide)) T.cl_Roll T.pr_owners b_Roll_owners k_Roll_owners (se_var 0 (pv 0))) (sa_cons (se_fn G_rest_for (hr.mono (by decide)) (by exact rfl) T.g_rest_for F_rest_for.kp b_rest_for .nil .nil rfl (takes_of rfl rfl rfl rfl) (sa_cons (se_var 0 (pv 0)) (sa_cons (se_var 2 (pv 2)) sa_nil))) (sa_cons (se_var 2 (pv 2)) sa_nil)))) sa_nil)))) ss_nil)))
  (ss_one (ss_ret se_non))))
theorem sc_same_under_revoking : FnScope ["one", "other", "found"] ["one", "other"] (defScope s_same_under_revoking) := ⟨rfl, rfl, rfl, by decide +kernel, rfl, by decide +kernel, by decide +kernel⟩
theorem ok_same_under_revoking (T : Tx K mg) {f : Addr} {fd : FuncData} (F : L2.FunD K "same_under_revoking" "same_under_revoking" (defArgs s_same_under_revoking) (defBody s_same_under_revoking) (defScope s_same_under_revoking) [] [] f fd) : FnOk P w K mg base (L2.CX P w) 7 f fd ["one", "other"] (spF K 2 f_same_under_revoking) := by
  obtain ⟨fd_gives_no_more, F_gives_no_more⟩ := T.e_gives_no_more
  have G_gives_no_more : FnOk P w K mg base (L2.CX P w) 6 _ fd_gives_no_more ["one", "other"] (spF K 2 f_gives_no_more) := ok_gives_no_more T F_gives_no_more
  have b_gives_no_more : Binds K fd_gives_no_more ["one", "other"] [] := F_gives_no_more.bindsN fun _ _ _ _ _ _ us hl => match us, hl with | [_, _], _ => rfl
  refine fn_ok F sc_same_under_revoking (by decide) fun cdv A outer s H E hr => ?_
  have nd := sc_same_under_revoking.nd
  exact (ss_cons (ss_asg (i := 2) (ps_set (i := 2) nd rfl (by first | exact Or.inl rfl | exact Or.inr rfl) (se_fn G_gives_no_more (hr.mono (by decide)) (by exact rfl) T.g_gives_no_more F_gives_no_more.kp b_gives_no_more .nil .nil rfl (takes_of rfl rfl rfl rfl) (sa_cons (se_var 0 (pv 0)) (sa_cons (se_var 1 (pv 1)) sa_nil)))))
  (ss_one (ss_ret (se_ifExp (st_isN (se_var 2 (pv 2))) (se_fn G_gives_no_more (hr.mono (by decide)) (by exact rfl) T.g_gives_no_more F_gives_no_more.kp b_gives_no_more .nil .nil rfl (takes_of rfl rfl rfl rfl) (sa_cons (se_var 1 (pv 1)) (sa_cons (se_var 0 (pv 0)) sa_nil))) (se_var 2 (pv 2))))))
theorem sc_law : FnScope ["script", "source", "repeat", "owners", "names", "entries", "roll", "useful", "less", "k", "part", "wide", "entry"] ["script"] (defScope s_law) := ⟨rfl, rfl, rfl, by decide +kernel, rfl, by decide +kernel, by decide +kernel⟩
theorem ok_law (T : Tx K mg) {f : Addr} {fd : FuncData} (F : L2.FunD K "law" "law" (defArgs s_law) (defBody s_law) (defScope s_law) [] [] f fd) : FnOk P w K mg base (L2.CX P w) 9 f fd ["script"] (spF K 1 f_law) := by
  obtain ⟨fd_law_source, F_law_source⟩ := T.e_law_source
  have G_law_source : FnOk P w K mg base (L2.CX P w) 1 _ fd_law_source ["script"] (spF K 1 f_law_source) := ok_law_source T F_law_source
  have b_law_source : Binds K fd_law_source ["script"] [] := F_law_source.bindsN fun _ _ _ _ _ _ us hl => match us, hl with | [_], _ => rfl
  obtain ⟨fd_law_owners_and_names, F_law_owners_and_names⟩ := T.e_law_owners_and_names
  have G_law_owners_and_names : FnOk P w K mg base (L2.CX P w) 3 _ fd_law_owners_and_names ["source"] (spF K 1 f_law_owners_and_names) := ok_law_owners_and_names T F_law_owners_and_names
  have b_law_owners_and_names : Binds K fd_law_owners_and_names ["source"] [] := F_law_owners_and_names.bindsN fun _ _ _ _ _ _ us hl => match us, hl with | [_], _ => rfl
  obtain ⟨fd_law_entries, F_law_entries⟩ := T.e_law_entries
  have G_law_entries : FnOk P w K mg base (L2.CX P w) 3 _ fd_law_entries ["source", "owners", "names", "most"] (spF K 4 f_law_entries) := ok_law_entries T F_law_entries
  have b_law_entries : Binds K fd_law_entries ["source", "owners", "names", "most"] [] := F_law_entries.bindsN fun _ _ _ _ _ _ us hl => match us, hl with | [_, _, _, _], _ => rfl
  obtain ⟨fd_law_make, F_law_make⟩ := T.e_law_make
  have G_law_make : FnOk P w K mg base (L2.CX P w) 7 _ fd_law_make ["owners", "entries"] (spF K 2 f_law_make) := ok_law_make T F_law_make
  have b_law_make : Binds K fd_law_make ["owners", "entries"] [] := F_law_make.bindsN fun _ _ _ _ _ _ us hl => match us, hl with | [_, _], _ => rfl
  obtain ⟨fd_core, F_core⟩ := T.e_core
  have G_core : FnOk P w K mg base (L2.CX P w) 5 _ fd_core ["roll"] (spF K 1 f_core) := ok_core T F_core
  have b_core : Binds K fd_core ["roll"] [] := F_core.bindsN fun _ _ _ _ _ _ us hl => match us, hl with | [_], _ => rfl
  obtain ⟨fd_Roll_only, F_Roll_only⟩ := T.e_Roll_only
  have G_Roll_only : FnOk P w K mg base (L2.CX P w) 7 _ fd_Roll_only ["self", "grants"] (spF K 2 f_Roll_only) := ok_Roll_only T F_Roll_only
  have b_Roll_only : Binds K fd_Roll_only ["self", "grants"] [] := F_Roll_only.bindsN fun _ _ _ _ _ _ us hl => match us, hl with | [_, _], _ => rfl
  obtain ⟨fd_law_is_same, F_law_is_same⟩ := T.e_law_is_same
  have G_law_is_same : FnOk P w K mg base (L2.CX P w) 6 _ fd_law_is_same ["one", "other"] (spF K 2 f_law_is_same) := ok_law_is_same T F_law_is_same
  have b_law_is_same : Binds K fd_law_is_same ["one", "other"] [] := F_law_is_same.bindsN fun _ _ _ _ _ _ us hl => match us, hl with | [_, _], _ => rfl
  obtain ⟨fd_law_matters, F_law_matters⟩ := T.e_law_matters
  have G_law_matters : FnOk P w K mg base (L2.CX P w) 8 _ fd_law_matters ["roll", "entry"] (spF K 2 f_law_matters) := ok_law_matters T F_law_matters
  have b_law_matters : Binds K fd_law_matters ["roll", "entry"] [] := F_law_matters.bindsN fun _ _ _ _ _ _ us hl => match us, hl with | [_, _], _ => rfl
  obtain ⟨fd_same_under_revoking, F_same_under_revoking⟩ := T.e_same_under_revoking
  have G_same_under_revoking : FnOk P w K mg base (L2.CX P w) 7 _ fd_same_under_revoking ["one", "other"] (spF K 2 f_same_under_revoking) := ok_same_under_revoking T F_same_under_revoking
  have b_same_under_revoking : Binds K fd_same_under_revoking ["one", "other"] [] := F_same_under_revoking.bindsN fun _ _ _ _ _ _ us hl => match us, hl with | [_, _], _ => rfl
  obtain ⟨fd_Roll_grants, F_Roll_grants⟩ := T.e_Roll_grants
  have G_Roll_grants : FnOk P w K mg base (L2.CX P w) 1 _ fd_Roll_grants ["self"] (spF K 1 f_Roll_grants) := ok_Roll_grants T F_Roll_grants
  have b_Roll_grants : Binds K fd_Roll_grants ["self"] [] := F_Roll_grants.bindsN fun _ _ _ _ _ _ us hl => match us, hl with | [_], _ => rfl
  obtain ⟨fd_law_draw, F_law_draw⟩ := T.e_law_draw
  have G_law_draw : FnOk P w K mg base (L2.CX P w) 1 _ fd_law_draw ["source", "limit"] (spF K 2 f_law_draw) := ok_law_draw T F_law_draw
  have b_law_draw : Binds K fd_law_draw ["source", "limit"] [] := F_law_draw.bindsN fun _ _ _ _ _ _ us hl => match us, hl with | [_, _], _ => rfl
  refine fn_ok F sc_law (by decide) fun cdv A outer s H E hr => ?_
  have nd := sc_law.nd
  exact (ss_cons (ss_asg (i := 1) (ps_set (i := 1) nd rfl (by first | exact Or.inl rfl | exact Or.inr rfl) (se_fn G_law_source (hr.mono (by decide)) (by exact rfl) T.g_law_source F_law_source.kp b_law_source .nil .nil rfl (takes_of rfl rfl rfl rfl) (sa_cons (se_var 0 (pv 0)) sa_nil))))
  (ss_cons (ss_for (g := .nm 2) (passes_of rfl) rfl (si_rng1 (by exact rfl) T.n_range (sa_cons se_int sa_nil)) (pg_name (i := 2) nd rfl (by first | exact Or.inl rfl | exact Or.inr rfl)) (ss_cons (ss_unp (g := .tp [3, 4]) (se_fn G_law_owners_and_names (hr.mono (by decide)) (by exact rfl) T.g_law_owners_and_names F_law_owners_and_names.kp b_law_owners_and_names .nil .nil rfl (takes_of rfl rfl rfl rfl) (sa_cons (se_var 1 (pv 1)) sa_nil)) (pg_tup rfl (pgs_cons (pg_name (i := 3) nd rfl (by first | exact Or.inl rfl | exact Or.inr rfl)) (pgs_cons (pg_name (i := 4) nd rfl (by first | exact Or.inl rfl | exact Or.inr rfl)) pgs_nil))))
  (ss_cons (ss_asg (i := 5) (ps_set (i := 5) nd rfl (by first | exact Or.inl rfl | exact Or.inr rfl) (se_fn G_law_entries (hr.mono (by decide)) (by exact rfl) T.g_law_entries F_law_entries.kp b_law_entries .nil .nil rfl (takes_of rfl rfl rfl rfl) (sa_cons (se_var 1 (pv 1)) (sa_cons (se_var 3 (pv 3)) (sa_cons (se_var 4 (pv 4)) (sa_cons se_int sa_nil)))))))
  (ss_cons (ss_asg (i := 6) (ps_set (i := 6) nd rfl (by first | exact Or.inl rfl | exact Or.inr rfl) (se_fn G_law_make (hr.mono (by decide)) (by exact rfl) T.g_law_make F_law_make.kp b_law_make .nil .nil rfl (takes_of rfl rfl rfl rfl) (sa_cons (se_var 3 (pv 3)) (sa_cons (se_var 5 (pv 5)) sa_nil)))))
  (ss_cons (ss_asg (i := 7) (ps_set (i := 7) nd rfl (by first | exact Or.inl rfl | exact Or.inr rfl) (se_fn G_core (hr.mono (by decide)) (by exact rfl) T.g_core F_core.kp b_core .nil .nil rfl (takes_of rfl rfl rfl rfl) (sa_cons (se_var 6 (pv 6)) sa_nil))))
  (ss_cons (ss_asg (i := 8) (ps_set (i := 8) nd rfl (by first | exact Or.inl rfl | exact Or.inr rfl) (se_meth G_Roll_only (hr.mono (by decide)) T.cl_Roll T.me_only b_Roll_only rfl (by decide) (se_var 6 (pv 6)) (sa_cons (se_var 7 (pv 7)) sa_nil))))
  (ss_cons (ss_if (swp (sw_or (st_cmp (op_neA hr.units) g_ne (se_fn G_core (hr.mono (by decide)) (by exact rfl) T.g_core F_core.kp b_core .nil .nil rfl (takes_of rfl rfl rfl rfl) (sa_cons (se_var 8 (pv 8)) sa_nil)) (se_var 7 (pv 7)) (nomark _)) (sw_or1 (st_not (st_truth (se_fn G_law_is_same (hr.mono (by decide)) (by exact rfl) T.g_law_is_same F_law_is_same.kp b_law_is_same .nil .nil rfl (takes_of rfl rfl rfl rfl) (sa_cons (se_var 6 (pv 6)) (sa_cons (se_var 8 (pv 8)) sa_nil)))))))) (ss_one (ss_ret se_bl)) ss_nil)
  (ss_cons (ss_if (st_cmp (op_neA hr.units) g_ne (se_comp (own := [("entry", 12)]) (g := .nm 12) (by exact rfl) nd (si_vc (i := 7) (by decide) (pv 7)) (blkOk_by (N := ["script", "source", "repeat", "owners", "names", "entries", "roll", "useful", "less", "k", "part", "wide", "entry"]) (sc := defScope s_law) (own := [("entry", 12)]) (by decide +kernel)) rfl (fun _ _ _ _ _ => (pg_name (i := 12) nd rfl (by first | exact Or.inl rfl | exact Or.inr rfl))) (fun _ _ _ _ _ => (pts_one (st_not (st_truth (se_fn G_law_matters (hr.mono (by decide)) (by exact rfl) T.g_law_matters F_law_matters.kp b_law_matters .nil .nil rfl takes0 (sa_cons (se_var 6 (pv 6)) (sa_cons (se_var 12 (pv 12)) sa_nil))))))) (fun _ _ _ _ _ => (se_var 12 (pv 12)))) (se_lst sa_nil) (nomark _)) (ss_one (ss_ret se_bl)) ss_nil)
  (ss_cons (ss_if (swp (sw_or (st_notN (se_fn G_same_under_revoking (hr.mono (by decide)) (by exact rfl) T.g_same_under_revoking F_same_under_revoking.kp b_same_under_revoking .nil .nil rfl (takes_of rfl rfl rfl rfl) (sa_cons (se_var 6 (pv 6)) (sa_cons (se_var 8 (pv 8)) sa_nil)))) (sw_or1 (st_notN (se_fn G_same_under_revoking (hr.mono (by decide)) (by exact rfl) T.g_same_under_revoking F_same_under_revoking.kp b_same_under_revoking .nil .nil rfl (takes_of rfl rfl rfl rfl) (sa_cons (se_var 8 (pv 8)) (sa_cons (se_var 6 (pv 6)) sa_nil))))))) (ss_one (ss_ret se_bl)) ss_nil)
  (ss_cons (ss_for (g := .nm 9) (passes_of rfl) rfl (si_rng1 (by exact rfl) T.n_range (sa_cons se_int sa_nil)) (pg_name (i := 9) nd rfl (by first | exact Or.inl rfl | exact Or.inr rfl)) (ss_cons (ss_lcAsg (own := [("entry", 12)]) (g := .nm 12) (ps_setLc (i := 10) rfl nd rfl rfl (sw_true rfl rfl rfl (by decide +kernel)) (si_e (se_prop (c := 0) G_Roll_grants (hr.mono (by decide)) T.cl_Roll T.pr_grants b_Roll_grants k_Roll_grants (se_var 6 (pv 6)))) (blkOk_by (N := ["script", "source", "repeat", "owners", "names", "entries", "roll", "useful", "less", "k", "part", "wide", "entry"]) (sc := defScope s_law) (own := [("entry", 12)]) (by decide +kernel)) (fun _ _ _ _ _ => (pg_name (i := 12) nd rfl (by first | exact Or.inl rfl | exact Or.inr rfl))) (fun _ _ _ _ _ => (pts_one (st_cmp (op_gtD hr.units) g_gt (se_fn G_law_draw (hr.mono (by decide)) (by exact rfl) T.g_law_draw F_law_draw.kp b_law_draw .nil .nil rfl takes0 (sa_cons (se_var 1 (pv 1)) (sa_cons se_int sa_nil))) se_int (nomark _)))) (fun _ _ _ _ _ => (se_var 12 (pv 12)))) rfl)
  (ss_cons (ss_if (st_not (st_truth (se_fn G_law_is_same (hr.mono (by decide)) (by exact rfl) T.g_law_is_same F_law_is_same.kp b_law_is_same .nil .nil rfl (takes_of rfl rfl rfl rfl) (sa_cons (se_meth G_Roll_only (hr.mono (by decide)) T.cl_Roll T.me_only b_Roll_only rfl (by decide) (se_var 6 (pv 6)) (sa_cons (se_var 10 (pv 10)) sa_nil)) (sa_cons (se_meth G_Roll_only (hr.mono (by decide)) T.cl_Roll T.me_only b_Roll_only rfl (by decide) (se_var 6 (pv 6)) (sa_cons (se_comp (own := [("entry", 12)]) (g := .nm 12) (by exact rfl) nd (si_vc (i := 10) (by decide) (pv 10)) (blkOk_by (N := ["script", "source", "repeat", "owners", "names", "entries", "roll", "useful", "less", "k", "part", "wide", "entry"]) (sc := defScope s_law) (own := [("entry", 12)]) (by decide +kernel)) rfl (fun _ _ _ _ _ => (pg_name (i := 12) nd rfl (by first | exact Or.inl rfl | exact Or.inr rfl))) (fun _ _ _ _ _ => (pts_one (st_cmp (op_inAny (room65 hr)) g_in (se_var 12 (pv 12)) (se_var 7 (pv 7)) rfl))) (fun _ _ _ _ _ => (se_var 12 (pv 12)))) sa_nil)) sa_nil))))) (ss_one (ss_ret se_bl)) ss_nil)
  (ss_cons (ss_asg (i := 11) (ps_set (i := 11) nd rfl (by first | exact Or.inl rfl | exact Or.inr rfl) (se_meth G_Roll_only (hr.mono (by decide)) T.cl_Roll T.me_only b_Roll_only rfl (by decide) (se_var 6 (pv 6)) (sa_cons (se_op op_addAny g_add (se_var 7 (pv 7)) (se_comp (own := [("entry", 12)]) (g := .nm 12) (by exact rfl) nd (si_e (se_prop (c := 0) G_Roll_grants (hr.mono (by decide)) T.cl_Roll T.pr_grants b_Roll_grants k_Roll_grants (se_var 6 (pv 6)))) (blkOk_by (N := ["script", "source", "repeat", "owners", "names", "entries", "roll", "useful", "less", "k", "part", "wide", "entry"]) (sc := defScope s_law) (own := [("entry", 12)]) (by decide +kernel)) rfl (fun _ _ _ _ _ => (pg_name (i := 12) nd rfl (by first | exact Or.inl rfl | exact Or.inr rfl))) (fun _ _ _ _ _ => (pts_one (st_cmp (op_eqA hr.units) g_eq (se_fn G_law_draw (hr.mono (by decide)) (by exact rfl) T.g_law_draw F_law_draw.kp b_law_draw .nil .nil rfl takes0 (sa_cons (se_var 1 (pv 1)) (sa_cons se_int sa_nil))) se_int (nomark _)))) (fun _ _ _ _ _ => (se_var 12 (pv 12))))) sa_nil))))
  (ss_one (ss_if (swp (sw_or (st_cmp (op_neA hr.units) g_ne (se_fn G_core (hr.mono (by decide)) (by exact rfl) T.g_core F_core.kp b_core .nil .nil rfl (takes_of rfl rfl rfl rfl) (sa_cons (se_var 11 (pv 11)) sa_nil)) (se_var 7 (pv 7)) (nomark _)) (sw_or1 (st_not (st_truth (se_fn G_law_is_same (hr.mono (by decide)) (by exact rfl) T.g_law_is_same F_law_is_same.kp b_law_is_same .nil .nil rfl (takes_of rfl rfl rfl rfl) (sa_cons (se_var 11 (pv 11)) (sa_cons (se_var 8 (pv 8)) sa_nil)))))))) (ss_one (ss_ret se_bl)) ss_nil))))))
  (ss_one (ss_if (st_cmp (op_neA hr.units) g_ne (se_callTy call_list_of g_list (by exact rfl) T.n_list (by decide +kernel) (sa_cons (se_prop (c := 0) G_Roll_grants (hr.mono (by decide)) T.cl_Roll T.pr_grants b_Roll_grants k_Roll_grants (se_var 6 (pv 6))) sa_nil)) (se_call (cr_sortD hr) g_sort (by exact rfl) T.n_sorted (by decide +kernel) (sa_cons (se_var 5 (pv 5)) sa_nil)) (nomark _)) (ss_one (ss_ret se_bl)) ss_nil))))))))))))
  (ss_one (ss_ret se_bl))))
end
end Gt
set_option Elab.async false
set_option linter.all false
set_option maxRecDepth 100000
set_option maxHeartbeats 0
namespace Gt
open PySem PySem.Spec PyProof.Rows L2 RZ StX
def dd_law_source : He5.DefA := ⟨fun K => (He.ga K "_law_source"), "_law_source", "_law_source", defArgs s_law_source, defBody s_law_source, defScope s_law_source, [], []⟩
def dd_law_draw : He5.DefA := ⟨fun K => (He.ga K "_law_draw"), "_law_draw", "_law_draw", defArgs s_law_draw, defBody s_law_draw, defScope s_law_draw, [], []⟩
def dd_law_word : He5.DefA := ⟨fun K => (He.ga K "_law_word"), "_law_word", "_law_word", defArgs s_law_word, defBody s_law_word, defScope s_law_word, [], []⟩
def dd_law_shuffle : He5.DefA := ⟨fun K => (He.ga K "_law_shuffle"), "_law_shuffle", "_law_shuffle", defArgs s_law_shuffle, defBody s_law_shuffle, defScope s_law_shuffle, [], []⟩
def dd_law_owners_and_names : He5.DefA := ⟨fun K => (He.ga K "_law_owners_and_names"), "_law_owners_and_names", "_law_owners_and_names", defArgs s_law_owners_and_names, defBody s_law_owners_and_names, defScope s_law_owners_and_names, [], []⟩
def dd_law_pick : He5.DefA := ⟨fun K => (He.ga K "_law_pick"), "_law_pick", "_law_pick", defArgs s_law_pick, defBody s_law_pick, defScope s_law_pick, [], []⟩
def dd_law_entries : He5.DefA := ⟨fun K => (He.ga K "_law_entries"), "_law_entries", "_law_entries", defArgs s_law_entries, defBody s_law_entries, defScope s_law_entries, [], []⟩
def dd_is_name : He5.DefA := ⟨fun K => (He.ga K "is_name"), "is_name", "is_name", defArgs s_is_name, defBody s_is_name, defScope s_is_name, [], []⟩
def dd_is_integer : He5.DefA := ⟨fun K => (He.ga K "is_integer"), "is_integer", "is_integer", defArgs s_is_integer, defBody s_is_integer, defScope s_is_integer, [], []⟩
def dd_is_time : He5.DefA := ⟨fun K => (He.ga K "is_time"), "is_time", "is_time", defArgs s_is_time, defBody s_is_time, defScope s_is_time, [], []⟩
def dd_is_level : He5.DefA := ⟨fun K => (He.ga K "is_level"), "is_level", "is_level", defArgs s_is_level, defBody s_is_level, defScope s_is_level, [], []⟩
def dd_is_passes : He5.DefA := ⟨fun K => (He.ga K "is_passes"), "is_passes", "is_passes", defArgs s_is_passes, defBody s_is_passes, defScope s_is_passes, [], []⟩
def dd_grant_error : He5.DefA := ⟨fun K => (He.ga K "grant_error"), "grant_error", "grant_error", defArgs s_grant_error, defBody s_grant_error, defScope s_grant_error, [], []⟩
def dd_roll_error : He5.DefA := ⟨fun K => (He.ga K "roll_error"), "roll_error", "roll_error", defArgs s_roll_error, defBody s_roll_error, defScope s_roll_error, [], []⟩
def dd_Roll_init : He5.DefA := ⟨fun K => (He.ma K (He.ga K "Roll") "__init__"), "__init__", "Roll.__init__", defArgs s_Roll_init, defBody s_Roll_init, defScope s_Roll_init, [], []⟩
def dd_law_make : He5.DefA := ⟨fun K => (He.ga K "_law_make"), "_law_make", "_law_make", defArgs s_law_make, defBody s_law_make, defScope s_law_make, [], []⟩
def dd_Roll_grants : He5.DefA := ⟨fun K => (pgA "Roll" "grants" K), "grants", "Roll.grants", defArgs s_Roll_grants, defBody s_Roll_grants, defScope s_Roll_grants, [], []⟩
def dd_is_support : He5.DefA := ⟨fun K => (He.ga K "is_support"), "is_support", "is_support", defArgs s_is_support, defBody s_is_support, defScope s_is_support, [], []⟩
def dd_counts_in : He5.DefA := ⟨fun K => (He.ga K "counts_in"), "counts_in", "counts_in", defArgs s_counts_in, defBody s_counts_in, defScope s_counts_in, [], []⟩
def dd_Roll_owners : He5.DefA := ⟨fun K => (pgA "Roll" "owners" K), "owners", "Roll.owners", defArgs s_Roll_owners, defBody s_Roll_owners, defScope s_Roll_owners, [], []⟩
def dd_rest_for : He5.DefA := ⟨fun K => (He.ga K "rest_for"), "rest_for", "rest_for", defArgs s_rest_for, defBody s_rest_for, defScope s_rest_for, [], []⟩
def dd_is_useful : He5.DefA := ⟨fun K => (He.ga K "is_useful"), "is_useful", "is_useful", defArgs s_is_useful, defBody s_is_useful, defScope s_is_useful, [], []⟩
def dd_core : He5.DefA := ⟨fun K => (He.ga K "core"), "core", "core", defArgs s_core, defBody s_core, defScope s_core, [], []⟩
def dd_Roll_contains : He5.DefA := ⟨fun K => (He.ma K (He.ga K "Roll") "__contains__"), "__contains__", "Roll.__contains__", defArgs s_Roll_contains, defBody s_Roll_contains, defScope s_Roll_contains, [], []⟩
def dd_check_member : He5.DefA := ⟨fun K => (He.ga K "check_member"), "check_member", "check_member", defArgs s_check_member, defBody s_check_member, defScope s_check_member, [], []⟩
def dd_check_members : He5.DefA := ⟨fun K => (He.ga K "check_members"), "check_members", "check_members", defArgs s_check_members, defBody s_check_members, defScope s_check_members, [], []⟩
def dd_Roll_only : He5.DefA := ⟨fun K => (He.ma K (He.ga K "Roll") "only"), "only", "Roll.only", defArgs s_Roll_only, defBody s_Roll_only, defScope s_Roll_only, [], []⟩
def dd_Roll_persons : He5.DefA := ⟨fun K => (pgA "Roll" "persons" K), "persons", "Roll.persons", defArgs s_Roll_persons, defBody s_Roll_persons, defScope s_Roll_persons, [], []⟩
def dd_check_name : He5.DefA := ⟨fun K => (He.ga K "check_name"), "check_name", "check_name", defArgs s_check_name, defBody s_check_name, defScope s_check_name, [], []⟩
def dd_counting_grants : He5.DefA := ⟨fun K => (He.ga K "counting_grants"), "counting_grants", "counting_grants", defArgs s_counting_grants, defBody s_counting_grants, defScope s_counting_grants, [], []⟩
def dd_taken : He5.DefA := ⟨fun K => (He.ga K "taken"), "taken", "taken", defArgs s_taken, defBody s_taken, defScope s_taken, [], []⟩
def dd_covers : He5.DefA := ⟨fun K => (He.ga K "covers"), "covers", "covers", defArgs s_covers, defBody s_covers, defScope s_covers, [], []⟩
def dd_maximal : He5.DefA := ⟨fun K => (He.ga K "maximal"), "maximal", "maximal", defArgs s_maximal, defBody s_maximal, defScope s_maximal, [], []⟩
def dd_powers_in : He5.DefA := ⟨fun K => (He.ga K "powers_in"), "powers_in", "powers_in", defArgs s_powers_in, defBody s_powers_in, defScope s_powers_in, [], []⟩
def dd_steps_of : He5.DefA := ⟨fun K => (He.ga K "steps_of"), "steps_of", "steps_of", defArgs s_steps_of, defBody s_steps_of, defScope s_steps_of, [], []⟩
def dd_law_is_same : He5.DefA := ⟨fun K => (He.ga K "_law_is_same"), "_law_is_same", "_law_is_same", defArgs s_law_is_same, defBody s_law_is_same, defScope s_law_is_same, [], []⟩
def dd_chain_in : He5.DefA := ⟨fun K => (He.ga K "chain_in"), "chain_in", "chain_in", defArgs s_chain_in, defBody s_chain_in, defScope s_chain_in, [], []⟩
def dd_useful_paper : He5.DefA := ⟨fun K => (He.ga K "useful_paper"), "useful_paper", "useful_paper", defArgs s_useful_paper, defBody s_useful_paper, defScope s_useful_paper, [], []⟩
def dd_law_matters : He5.DefA := ⟨fun K => (He.ga K "_law_matters"), "_law_matters", "_law_matters", defArgs s_law_matters, defBody s_law_matters, defScope s_law_matters, [], []⟩
def dd_check_owners_cores : He5.DefA := ⟨fun K => (He.ga K "check_owners_cores"), "check_owners", "check_owners", defArgs s_check_owners_cores, defBody s_check_owners_cores, defScope s_check_owners_cores, [], []⟩
def dd_gives_no_more : He5.DefA := ⟨fun K => (He.ga K "gives_no_more"), "gives_no_more", "gives_no_more", defArgs s_gives_no_more, defBody s_gives_no_more, defScope s_gives_no_more, [], []⟩
def dd_same_under_revoking : He5.DefA := ⟨fun K => (He.ga K "same_under_revoking"), "same_under_revoking", "same_under_revoking", defArgs s_same_under_revoking, defBody s_same_under_revoking, defScope s_same_under_revoking, [], []⟩
def dd_law : He5.DefA := ⟨fun K => (He.ga K "law"), "law", "law", defArgs s_law, defBody s_law, defScope s_law, [], []⟩
def hfn : List He5.DefA := [dd_law_source, dd_law_draw, dd_law_word, dd_law_shuffle, dd_law_owners_and_names, dd_law_pick, dd_law_entries, dd_is_name, dd_is_integer, dd_is_time, dd_is_level, dd_is_passes, dd_grant_error, dd_roll_error, dd_Roll_init, dd_law_make, dd_Roll_grants, dd_is_support, dd_counts_in, dd_Roll_owners, dd_rest_for, dd_is_useful, dd_core, dd_Roll_contains, dd_check_member, dd_check_members, dd_Roll_only, dd_Roll_persons, dd_check_name, dd_counting_grants, dd_taken, dd_covers, dd_maximal, dd_powers_in, dd_steps_of, dd_law_is_same, dd_chain_in, dd_useful_paper, dd_law_matters, dd_check_owners_cores, dd_gives_no_more, dd_same_under_revoking, dd_law]
def hfa : List He.Fa := [.free "abs", .free "all", .free "any", .free "bool", .free "enumerate", .free "int", .free "isinstance", .free "len", .free "list", .free "min", .free "range", .free "set", .free "sorted", .free "str", .free "tuple", .str "LETTERS" "abcdefghijklmnopqrstuvwxyz", .int "MAX_LEVEL" (9), .int "MAX_NAME" (8), .int "MAX_OWNERS" (4), .int "MAX_PASSES" (20), .int "MAX_TIME" (1000000000000000000000000000000), .glo "_law_source", .glo "_law_draw", .glo "_law_word", .glo "_law_shuffle", .glo "_law_owners_and_names", .glo "_law_pick", .glo "_law_entries", .glo "is_name", .glo "is_integer", .glo "is_time", .glo "is_level", .glo "is_passes", .glo "grant_error", .glo "roll_error", .glo "_law_make", .glo "is_support", .glo "counts_in", .glo "rest_for", .glo "is_useful", .glo "core", .glo "check_member", .glo "check_members", .glo "check_name", .glo "counting_grants", .glo "taken", .glo "covers", .glo "maximal", .glo "powers_in", .glo "steps_of", .glo "_law_is_same", .glo "chain_in", .glo "useful_paper", .glo "_law_matters", .glo "check_owners_cores", .glo "gives_no_more", .glo "same_under_revoking", .glo "Roll", .cls "Roll", .mkr "Roll", .noat "Roll" "own", .noat "Roll" "made", .meth "Roll" "__contains__", .meth "Roll" "only", .glo "law"]
def hex (K : PySem.W.Frag) : Bool := propB K "Roll" "grants" && (propB K "Roll" "owners" && (propB K "Roll" "persons" && (conB K "Roll" "MOST_GRANTS" 60 && (true))))
def loose : List PySem.Str := (["__name__", "GrantrollError", "InvalidGrants", "InvalidName", "InvalidRoll", "InvalidText", "OtherOwners", "UnknownGrant", "LETTERS", "MAX_NAME", "MAX_TIME", "MAX_LEVEL", "MAX_PASSES", "is_integer", "is_name", "is_time", "is_level", "is_passes", "grant_error", "is_support", "MAX_OWNERS", "DIGITS", "roll_error", "check_members", "check_member", "check_name", "check_owners", "check_owners_rolls", "grant_text", "number_in"] : List PySem.Str) ++ (["grant_in", "owners_in", "Roll", "counts_in", "chain_in", "counting_grants", "covers", "maximal", "taken", "powers_in", "steps_of", "rest_for", "is_useful", "core", "useful_paper", "check_owners_cores", "gives_no_more", "same_under_revoking", "_law_source", "_law_draw", "_law_pick", "_law_shuffle", "_law_word", "_law_owners_and_names", "_law_entries", "_law_make", "_law_is_same", "_law_matters"] : List PySem.Str)
abbrev HRow : PySem.W.OpenRow := PySem.W.OpenLaw.row PySem.Challenge.rw_grantroll_k85_whole_idle_grants
abbrev hk : PySem.W.Hook := hookE 5 hfa hfn hex
def obh (s : PySem.W.SharedT) : AlE := obsEG 5 hfa hfn hex (HandSHeadRun.getT s)
theorem obh_eq (s : PySem.W.SharedT) : obh s = hk.obs s.abs := obsEG_eq (HandSHeadRun.getT_eq s)
theorem hrun (w : World) : HandSHeadRun.RunEq HRow (PySem.W.view HRow.prog [65]) hk obh 6000 loose w := by
  intro os
  kernel_rfl
theorem tx_ok {K : PySem.W.Frag} {h : Heap} {mg : Str → Option Value} (X : K.In h) (G : h.Ns mainGlobals mg) (c : SaysE hfa hfn hex K) : Tx K mg where
  n_abs := He.free_ok X G (c.a.fact 0 rfl)
  n_all := He.free_ok X G (c.a.fact 1 rfl)
  n_any := He.free_ok X G (c.a.fact 2 rfl)
  n_bool := He.free_ok X G (c.a.fact 3 rfl)
  n_enumerate := He.free_ok X G (c.a.fact 4 rfl)
  n_int := He.free_ok X G (c.a.fact 5 rfl)
  n_isinstance := He.free_ok X G (c.a.fact 6 rfl)
  n_len := He.free_ok X G (c.a.fact 7 rfl)
  n_list := He.free_ok X G (c.a.fact 8 rfl)
  n_min := He.free_ok X G (c.a.fact 9 rfl)
  n_range := He.free_ok X G (c.a.fact 10 rfl)
  n_set := He.free_ok X G (c.a.fact 11 rfl)
  n_sorted := He.free_ok X G (c.a.fact 12 rfl)
  n_str := He.free_ok X G (c.a.fact 13 rfl)
  n_tuple := He.free_ok X G (c.a.fact 14 rfl)
  i_LETTERS := He.str_ok X G (c.a.fact 15 rfl)
  i_MAX_LEVEL := He.int_ok X G (c.a.fact 16 rfl)
  i_MAX_NAME := He.int_ok X G (c.a.fact 17 rfl)
  i_MAX_OWNERS := He.int_ok X G (c.a.fact 18 rfl)
  i_MAX_PASSES := He.int_ok X G (c.a.fact 19 rfl)
  i_MAX_TIME := He.int_ok X G (c.a.fact 20 rfl)
  g_law_source := He.glo_ok X G (c.a.fact 21 rfl)
  e_law_source := c.a.def_ 0 (d := dd_law_source) rfl
  g_law_draw := He.glo_ok X G (c.a.fact 22 rfl)
  e_law_draw := c.a.def_ 1 (d := dd_law_draw) rfl
  g_law_word := He.glo_ok X G (c.a.fact 23 rfl)
  e_law_word := c.a.def_ 2 (d := dd_law_word) rfl
  g_law_shuffle := He.glo_ok X G (c.a.fact 24 rfl)
  e_law_shuffle := c.a.def_ 3 (d := dd_law_shuffle) rfl
  g_law_owners_and_names := He.glo_ok X G (c.a.fact 25 rfl)
  e_law_owners_and_names := c.a.def_ 4 (d := dd_law_owners_and_names) rfl
  g_law_pick := He.glo_ok X G (c.a.fact 26 rfl)
  e_law_pick := c.a.def_ 5 (d := dd_law_pick) rfl
  g_law_entries := He.glo_ok X G (c.a.fact 27 rfl)
  e_law_entries := c.a.def_ 6 (d := dd_law_entries) rfl
  g_is_name := He.glo_ok X G (c.a.fact 28 rfl)
  e_is_name := c.a.def_ 7 (d := dd_is_name) rfl
  g_is_integer := He.glo_ok X G (c.a.fact 29 rfl)
  e_is_integer := c.a.def_ 8 (d := dd_is_integer) rfl
  g_is_time := He.glo_ok X G (c.a.fact 30 rfl)
  e_is_time := c.a.def_ 9 (d := dd_is_time) rfl
  g_is_level := He.glo_ok X G (c.a.fact 31 rfl)
  e_is_level := c.a.def_ 10 (d := dd_is_level) rfl
  g_is_passes := He.glo_ok X G (c.a.fact 32 rfl)
  e_is_passes := c.a.def_ 11 (d := dd_is_passes) rfl
  g_grant_error := He.glo_ok X G (c.a.fact 33 rfl)
  e_grant_error := c.a.def_ 12 (d := dd_grant_error) rfl
  g_roll_error := He.glo_ok X G (c.a.fact 34 rfl)
  e_roll_error := c.a.def_ 13 (d := dd_roll_error) rfl
  e_Roll_init := c.a.def_ 14 (d := dd_Roll_init) rfl
  g_law_make := He.glo_ok X G (c.a.fact 35 rfl)
  e_law_make := c.a.def_ 15 (d := dd_law_make) rfl
  e_Roll_grants := c.a.def_ 16 (d := dd_Roll_grants) rfl
  g_is_support := He.glo_ok X G (c.a.fact 36 rfl)
  e_is_support := c.a.def_ 17 (d := dd_is_support) rfl
  g_counts_in := He.glo_ok X G (c.a.fact 37 rfl)
  e_counts_in := c.a.def_ 18 (d := dd_counts_in) rfl
  e_Roll_owners := c.a.def_ 19 (d := dd_Roll_owners) rfl
  g_rest_for := He.glo_ok X G (c.a.fact 38 rfl)
  e_rest_for := c.a.def_ 20 (d := dd_rest_for) rfl
  g_is_useful := He.glo_ok X G (c.a.fact 39 rfl)
  e_is_useful := c.a.def_ 21 (d := dd_is_useful) rfl
  g_core := He.glo_ok X G (c.a.fact 40 rfl)
  e_core := c.a.def_ 22 (d := dd_core) rfl
  e_Roll_contains := c.a.def_ 23 (d := dd_Roll_contains) rfl
  g_check_member := He.glo_ok X G (c.a.fact 41 rfl)
  e_check_member := c.a.def_ 24 (d := dd_check_member) rfl
  g_check_members := He.glo_ok X G (c.a.fact 42 rfl)
  e_check_members := c.a.def_ 25 (d := dd_check_members) rfl
  e_Roll_only := c.a.def_ 26 (d := dd_Roll_only) rfl
  e_Roll_persons := c.a.def_ 27 (d := dd_Roll_persons) rfl
  g_check_name := He.glo_ok X G (c.a.fact 43 rfl)
  e_check_name := c.a.def_ 28 (d := dd_check_name) rfl
  g_counting_grants := He.glo_ok X G (c.a.fact 44 rfl)
  e_counting_grants := c.a.def_ 29 (d := dd_counting_grants) rfl
  g_taken := He.glo_ok X G (c.a.fact 45 rfl)
  e_taken := c.a.def_ 30 (d := dd_taken) rfl
  g_covers := He.glo_ok X G (c.a.fact 46 rfl)
  e_covers := c.a.def_ 31 (d := dd_covers) rfl
  g_maximal := He.glo_ok X G (c.a.fact 47 rfl)
  e_maximal := c.a.def_ 32 (d := dd_maximal) rfl
  g_powers_in := He.glo_ok X G (c.a.fact 48 rfl)
  e_powers_in := c.a.def_ 33 (d := dd_powers_in) rfl
  g_steps_of := He.glo_ok X G (c.a.fact 49 rfl)
  e_steps_of := c.a.def_ 34 (d := dd_steps_of) rfl
  g_law_is_same := He.glo_ok X G (c.a.fact 50 rfl)
  e_law_is_same := c.a.def_ 35 (d := dd_law_is_same) rfl
  g_chain_in := He.glo_ok X G (c.a.fact 51 rfl)
  e_chain_in := c.a.def_ 36 (d := dd_chain_in) rfl
  g_useful_paper := He.glo_ok X G (c.a.fact 52 rfl)
  e_useful_paper := c.a.def_ 37 (d := dd_useful_paper) rfl
  g_law_matters := He.glo_ok X G (c.a.fact 53 rfl)
  e_law_matters := c.a.def_ 38 (d := dd_law_matters) rfl
  g_check_owners_cores := He.glo_ok X G (c.a.fact 54 rfl)
  e_check_owners_cores := c.a.def_ 39 (d := dd_check_owners_cores) rfl
  g_gives_no_more := He.glo_ok X G (c.a.fact 55 rfl)
  e_gives_no_more := c.a.def_ 40 (d := dd_gives_no_more) rfl
  g_same_under_revoking := He.glo_ok X G (c.a.fact 56 rfl)
  e_same_under_revoking := c.a.def_ 41 (d := dd_same_under_revoking) rfl
  e_law := c.a.def_ 42 (d := dd_law) rfl
  g_Roll := He.glo_ok X G (c.a.fact 57 rfl)
  cl_Roll := He.cls_ok (c.a.fact 58 rfl)
  mk_Roll := He.mkr_ok (c.a.fact 59 rfl)
  na_own := He.noat_ok (c.a.fact 60 rfl)
  na_made := He.noat_ok (c.a.fact 61 rfl)
  pr_grants := propB_ok (He.ba c.x).1
  pr_owners := propB_ok (He.ba (He.ba c.x).2).1
  pr_persons := propB_ok (He.ba (He.ba (He.ba c.x).2).2).1
  oc_contains := (He.meth_ok (c.a.fact 62 rfl)).at_
  of_contains := (He.meth_ok (c.a.fact 62 rfl)).fn
  me_only := He.meth_ok (c.a.fact 63 rfl)
  cr_Roll := (conB_ok (n := 60) (He.ba (He.ba (He.ba (He.ba c.x).2).2).2).1).1
  cv_most := (conB_ok (n := 60) (He.ba (He.ba (He.ba (He.ba c.x).2).2).2).1).2
theorem law_fact {P : Program} {w : World} {K : PySem.W.Frag} {h : Heap} {mg : Str → Option Value} {f : Addr} (X : K.In h) (G : h.Ns mainGlobals mg) (hfa' : mg ("law" : Str) = some (.ref f)) (c : SaysE hfa hfn hex K) :
    ∃ fd : FuncData, (∀ (s : Shared) (v : Value), BindsTo s fd ⟨[v], []⟩ [("script", v)]) ∧ ∀ base : Heap, K.In base → base.Ns mainGlobals mg → FnOkG P w K mg base (L2.CX P w) 9 f fd ["script"] (spF K 1 f_law) := by
  obtain ⟨fd, F⟩ := c.a.def_ 42 (d := dd_law) rfl
  have e := hfa'.symm.trans (He.glo_ok X G (c.a.fact 64 (f := .glo "law") rfl))
  cases e
  have b := FunD.bindsA (ps := ["script"]) F fun _ _ _ _ _ _ us hl => match us, hl with | [_], _ => rfl
  exact ⟨fd, fun s v => b s [v] rfl, fun base _ _ => toG (ok_law (tx_ok X G c) F)⟩
end Gt
set_option maxHeartbeats 0
open PySem PySem.Spec PyProof.Rows L2 RZ StX PySem.W
theorem PySem.Challenge.cw_grantroll_k85_whole_idle_grants_holds : PySem.Challenge.rw_grantroll_k85_whole_idle_grants.Holds := by
  w_on; o_law
  refine HandSHeadRun.head_any (r := OpenLaw.row PySem.Challenge.rw_grantroll_k85_whole_idle_grants) (q := view (OpenLaw.row PySem.Challenge.rw_grantroll_k85_whole_idle_grants).prog [65]) (H := Gt.hk) (ob := Gt.obh) (M := 6000) (loose := Gt.loose) (d := HandSHeadRun.topDef (OpenLaw.row PySem.Challenge.rw_grantroll_k85_whole_idle_grants).prog 65) (kwd := []) Gt.obh_eq
    (by kernel_rfl) (fun s => by kernel_rfl) Gt.hrun (by kernel_rfl) (by kernel_rfl) (by kernel_rfl) (by rfl) (by first | assumption | decide +kernel) (by decide +kernel) ⟨rfl, rfl, rfl, rfl, rfl, by decide +kernel⟩ ?hw ?hc
  case hw => w_witness2
  case hc =>
    refine Gt.walk_ofG (l := PySem.Challenge.rw_grantroll_k85_whole_idle_grants) (n := 63) (k := 9) (x := "script") (CX := fun w => L2.CX PySem.Challenge.rw_grantroll_k85_whole_idle_grants.prog w) rfl (by decide) (by kernel_rfl) ⟨rfl, by decide, by decide⟩ ?F Gt.cx_no
    case F =>
      intro w mg fa h Y G hmg0
      obtain ⟨K, KX, c⟩ := Y
      have hmg : mg ("law" : PySem.Str) = some (.ref fa) := by
        have e : (HandSHeadRun.topDef (OpenLaw.row PySem.Challenge.rw_grantroll_k85_whole_idle_grants).prog 65).name = ("law" : PySem.Str) := by kernel_rfl
        rw [← e]
        exact hmg0
      obtain ⟨fd, hb, hF⟩ := Gt.law_fact (P := (PySem.Challenge.rw_grantroll_k85_whole_idle_grants).prog) (w := w) KX G hmg c
      exact ⟨K, fd, _, KX, hb, fun H a ns hl _ hS => Gt.law_sp hS (Gt.law_true ns hl), hF⟩
