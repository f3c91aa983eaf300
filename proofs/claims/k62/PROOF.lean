import PyProof.Rows.All
import Wide.All
import OpenK.AllK
import Wide.FinOn
import PySem.Challenge.RW_nextbylast_k62_whole_main_lengths_by_hal
import HandS.ForMost
import HandS.ForExc
import HandS.Wide
import HandS.IsInst
import HandS.TupAny
import HandS.Style
import HandS.Zip
import HandS.Small
import HandS.Conv
import HandS.More
import HandS.TupLen
import HandS.Ends
import HandS.Defaults
import PyProof.ReprRoads
import KE.GoesMore
import HandS.Iter
import KE.DatumOrd
import KE.KUnpack
import HandS.Star
import HandS.Dict
import HandS.MakeKw
import HandS.SortInts
import KE.KStateDown
import HandS.Words
import HandS.WordsExc
import HandS.Head0
import HandS.Head1
import HandS.Head2
import HandS.HeadEnd
import HandS.HeadHook1
import HandS.HeadHook2
import PyProof.Rows.StrJoinMade
set_option Elab.async false
set_option linter.all false
set_option maxRecDepth 100000
set_option maxHeartbeats 2000000
/-! DL1: data as trees, what a value reads as, the state of a body over it. -/
namespace DL
open PySem PySem.Spec PyProof.Rows L2

inductive D where
  | non | bl (b : Bool) | int (i : Int) | str (x : Str) | strm
  | lst (xs : List D) | tup (xs : List D)
  | dic (ks : List Key) (xs : List D) | dit (ks : List (List Key)) (xs : List D)
  | ins (c : Str) (fs : List D)

/-- flat, without an object -/
def D.scal : D → Bool
  | .non => true | .bl _ => true | .int _ => true | .str _ => true
  | _ => false

/-- the own classes; what is known of the script's address -/
structure Cls0 where
  f : Str → Option (Addr × List Str)
  ok : Addr → Hp → Prop
instance : CoeFun Cls0 fun _ => Str → Option (Addr × List Str) := ⟨Cls0.f⟩
/-- the law run's own: the stream's two cells; the own classes: where they stand, their fields -/
structure Pt where
  s : Addr
  l : Addr
  cl : Cls0
  me : Addr := 0

mutual
inductive RdD (P : Pt) (G : Hp) : V → D → Prop
  | non : RdD P G .non .non
  | bl (b : Bool) : RdD P G (.bl b) (.bl b)
  | int (i : Int) : RdD P G (.int i) (.int i)
  | str (x : Str) : RdD P G (.str x) (.str x)
  | strm : RdD P G (.ref P.s) .strm
  | lst {a : Addr} {vs : List V} {xs : List D} : G a = some (.lst vs) → RdL P G vs xs → RdD P G (.ref a) (.lst xs)
  | tup {a : Addr} {vs : List V} {xs : List D} : G a = some (.tup vs) → RdL P G vs xs → RdD P G (.ref a) (.tup xs)
  | dic {a : Addr} {ks : List Key} {vs : List V} {xs : List D} : G a = some (.dK (ks.zip vs)) → ks.length = vs.length → RdL P G vs xs → RdD P G (.ref a) (.dic ks xs)
  | dit {a : Addr} {ks : List (List Key)} {vs : List V} {xs : List D} : G a = some (.dT (ks.zip vs)) → ks.length = vs.length → RdL P G vs xs → RdD P G (.ref a) (.dit ks xs)
  | ins {a C dx : Addr} {c : Str} {ns : List Str} {vs : List V} {fs : List D} : P.cl c = some (C, ns) → G a = some (.ins C dx (ns.zip vs)) → ns.length = vs.length → RdL P G vs fs → RdD P G (.ref a) (.ins c fs)
inductive RdL (P : Pt) (G : Hp) : List V → List D → Prop
  | nil : RdL P G [] []
  | cons {v : V} {d : D} {vs : List V} {ds : List D} : RdD P G v d → RdL P G vs ds → RdL P G (v :: vs) (d :: ds)
end

/-- another instance's own -/
def Pt.at (P : Pt) (x : Addr) : Pt := { P with me := x }
section
variable {P : Pt} {G : Hp} {x : Addr}
mutual
theorem RdD.to : ∀ {v : V} {d : D}, RdD P G v d → RdD (P.at x) G v d
  | _, _, .non => .non
  | _, _, .bl b => .bl b
  | _, _, .int i => .int i
  | _, _, .str x => .str x
  | _, _, .strm => .strm (P := P.at x)
  | _, _, .lst e r => .lst e (RdL.to r)
  | _, _, .tup e r => .tup e (RdL.to r)
  | _, _, .dic e l r => .dic e l (RdL.to r)
  | _, _, .dit e l r => .dit e l (RdL.to r)
  | _, _, .ins c e l r => .ins (P := P.at x) c e l (RdL.to r)
theorem RdL.to : ∀ {vs : List V} {ds : List D}, RdL P G vs ds → RdL (P.at x) G vs ds
  | _, _, .nil => .nil
  | _, _, .cons r rs => .cons (RdD.to r) (RdL.to rs)
end
mutual
theorem RdD.fro : ∀ {v : V} {d : D}, RdD (P.at x) G v d → RdD P G v d
  | _, _, .non => .non
  | _, _, .bl b => .bl b
  | _, _, .int i => .int i
  | _, _, .str x => .str x
  | _, _, .strm => .strm (P := P)
  | _, _, .lst e r => .lst e (RdL.fro r)
  | _, _, .tup e r => .tup e (RdL.fro r)
  | _, _, .dic e l r => .dic e l (RdL.fro r)
  | _, _, .dit e l r => .dit e l (RdL.fro r)
  | _, _, .ins c e l r => .ins (P := P) c e l (RdL.fro r)
theorem RdL.fro : ∀ {vs : List V} {ds : List D}, RdL (P.at x) G vs ds → RdL P G vs ds
  | _, _, .nil => .nil
  | _, _, .cons r rs => .cons (RdD.fro r) (RdL.fro rs)
end
end
/-- what stands in G stands in G' -/
abbrev Sub (G G' : Hp) : Prop := ∀ a o, G a = some o → G' a = some o
theorem Sub.rfl' {G : Hp} : Sub G G := fun _ _ h => h

section
variable {P : Pt} {G G' : Hp}
mutual
theorem RdD.mono (h : Sub G G') : ∀ {v : V} {d : D}, RdD P G v d → RdD P G' v d
  | _, _, .non => .non
  | _, _, .bl b => .bl b
  | _, _, .int i => .int i
  | _, _, .str x => .str x
  | _, _, .strm => .strm
  | _, _, .lst e r => .lst (h _ _ e) (RdL.mono h r)
  | _, _, .tup e r => .tup (h _ _ e) (RdL.mono h r)
  | _, _, .dic e l r => .dic (h _ _ e) l (RdL.mono h r)
  | _, _, .dit e l r => .dit (h _ _ e) l (RdL.mono h r)
  | _, _, .ins c e l r => .ins c (h _ _ e) l (RdL.mono h r)
theorem RdL.mono (h : Sub G G') : ∀ {vs : List V} {ds : List D}, RdL P G vs ds → RdL P G' vs ds
  | _, _, .nil => .nil
  | _, _, .cons r rs => .cons (RdD.mono h r) (RdL.mono h rs)
end
theorem RdD.scal {v : V} {d : D} (s : d.scal = true) (r : RdD P G v d) : RdD P G' v d := by
  cases r with
  | non => exact .non
  | bl b => exact .bl b
  | int i => exact .int i
  | str x => exact .str x
  | _ => exact absurd s Bool.false_ne_true
theorem RdL.scal : ∀ {vs : List V} {ds : List D}, ds.all D.scal = true → RdL P G vs ds → RdL P G' vs ds
  | _, _, _, .nil => .nil
  | _, _, s, .cons r rs => by
    rw [List.all_cons, Bool.and_eq_true] at s
    exact .cons (r.scal s.1) (RdL.scal s.2 rs)
theorem RdL.length : ∀ {vs : List V} {ds : List D}, RdL P G vs ds → vs.length = ds.length
  | _, _, .nil => rfl
  | _, _, .cons _ rs => congrArg Nat.succ (RdL.length rs)
theorem RdL.get : ∀ {vs : List V} {ds : List D} {i : Nat} {d : D}, RdL P G vs ds → ds[i]? = some d → ∃ v, vs[i]? = some v ∧ RdD P G v d
  | _, _, 0, d, .cons r rs, h => ⟨_, rfl, by
      have e : _ = d := Option.some.inj h
      subst e; exact r⟩
  | _, _, i + 1, d, .cons r rs, h => RdL.get (i := i) rs h
theorem RdL.getV : ∀ {vs : List V} {ds : List D} {i : Nat} {v : V}, RdL P G vs ds → vs[i]? = some v → ∃ d, ds[i]? = some d ∧ RdD P G v d
  | _, _, 0, v, .cons r rs, h => ⟨_, rfl, by
      have e : _ = v := Option.some.inj h
      subst e; exact r⟩
  | _, _, i + 1, d, .cons r rs, h => RdL.getV (i := i) rs h
theorem RdL.append : ∀ {vs ws : List V} {ds es : List D}, RdL P G vs ds → RdL P G ws es → RdL P G (vs ++ ws) (ds ++ es)
  | _, _, _, _, .nil, s => s
  | _, _, _, _, .cons r rs, s => .cons r (RdL.append rs s)
theorem RdL.take : ∀ {vs : List V} {ds : List D} (n : Nat), RdL P G vs ds → RdL P G (vs.take n) (ds.take n)
  | _, _, 0, _ => .nil
  | _, _, _ + 1, .nil => .nil
  | _, _, n + 1, .cons r rs => .cons r (RdL.take n rs)
theorem RdL.drop : ∀ {vs : List V} {ds : List D} (n : Nat), RdL P G vs ds → RdL P G (vs.drop n) (ds.drop n)
  | _, _, 0, r => r
  | _, _, _ + 1, .nil => .nil
  | _, _, n + 1, .cons _ rs => RdL.drop n rs
theorem RdL.set {v : V} {d : D} (r : RdD P G v d) : ∀ {vs : List V} {ds : List D} (i : Nat), RdL P G vs ds → RdL P G (vs.set i v) (ds.set i d)
  | _, _, _, .nil => .nil
  | _, _, 0, .cons _ rs => .cons r rs
  | _, _, i + 1, .cons q rs => .cons q (RdL.set r i rs)
theorem RdL.reverse {vs : List V} {ds : List D} (r : RdL P G vs ds) : RdL P G vs.reverse ds.reverse := by
  induction vs generalizing ds with
  | nil => cases r; exact .nil
  | cons v vs ih =>
    cases r with
    | cons r rs =>
      rw [List.reverse_cons, List.reverse_cons]
      exact (ih rs).append (.cons r .nil)
theorem RdL.dropLast {vs : List V} {ds : List D} (r : RdL P G vs ds) : RdL P G vs.dropLast ds.dropLast := by
  rw [List.dropLast_eq_take, List.dropLast_eq_take, r.length]
  exact r.take _
theorem RdL.eraseIdx : ∀ {vs : List V} {ds : List D} (i : Nat), RdL P G vs ds → RdL P G (vs.eraseIdx i) (ds.eraseIdx i)
  | _, _, _, .nil => .nil
  | _, _, 0, .cons _ rs => rs
  | _, _, i + 1, .cons q rs => .cons q (RdL.eraseIdx i rs)
theorem RdL.rep {vs : List V} {ds : List D} (r : RdL P G vs ds) : ∀ k : Nat, RdL P G (List.replicate k vs).flatten (List.replicate k ds).flatten
  | 0 => .nil
  | k + 1 => by
    rw [List.replicate_succ, List.replicate_succ, List.flatten_cons, List.flatten_cons]
    exact r.append (RdL.rep r k)
theorem RdL.ints : ∀ {vs : List V} {ns : List Int}, RdL P G vs (ns.map D.int) → vs = ns.map V.int
  | [], [], _ => rfl
  | _, [], r => by cases r; rfl
  | vs, n :: ns, r => by
    rw [List.map_cons] at r
    cases r with
    | cons r rs =>
      cases r
      rw [RdL.ints rs, List.map_cons]
theorem RdL.ofInts : ∀ (ns : List Int), RdL P G (ns.map V.int) (ns.map D.int)
  | [] => .nil
  | n :: ns => .cons (.int n) (RdL.ofInts ns)
theorem RdL.bls : ∀ {vs : List V} {ns : List Bool}, RdL P G vs (ns.map D.bl) → vs = ns.map V.bl
  | _, [], r => by cases r; rfl
  | vs, n :: ns, r => by
    rw [List.map_cons] at r
    cases r with
    | cons r rs =>
      cases r
      rw [RdL.bls rs, List.map_cons]
end

/-- the part of G that is younger than H0 -/
def rg (b : Bool) (G H0 : Hp) : Hp := if b = true then (fun a => match H0 a with | none => G a | some _ => none) else G
theorem rg_false {G H0 : Hp} : rg false G H0 = G := rfl
theorem rg_sub {b : Bool} {G H0 : Hp} : Sub (rg b G H0) G := fun a o h => by
  cases b with
  | false => exact h
  | true =>
    have h' : (match H0 a with | none => G a | some _ => none) = some o := h
    cases e : H0 a with
    | none => rw [e] at h'; exact h'
    | some u => rw [e] at h'; cases h'
theorem rg_mono {b : Bool} {G G' H0 : Hp} (h : Sub G G') : Sub (rg b G H0) (rg b G' H0) := fun a o e => by
  cases b with
  | false => exact h a o e
  | true =>
    have e' : (match H0 a with | none => G a | some _ => none) = some o := e
    show (match H0 a with | none => G' a | some _ => none) = some o
    cases q : H0 a with
    | none => rw [q] at e'; exact h a o e'
    | some u => rw [q] at e'; cases e'
theorem rg_at {b : Bool} {G H0 : Hp} {a : Addr} {o : HO} (e : G a = some o) (n : H0 a = none) : rg b G H0 a = some o := by
  cases b with
  | false => exact e
  | true =>
    show (match H0 a with | none => G a | some _ => none) = some o
    rw [n]; exact e
theorem rg_le {b c : Bool} {G H0 : Hp} (h : b = true → c = true) : Sub (rg c G H0) (rg b G H0) := by
  cases b with
  | false => exact rg_sub
  | true => rw [h rfl]; exact Sub.rfl'
/-- a flag: everything in it is younger, or flat -/
def fl (b : Bool) (d : D) : Bool := b || d.scal
def fls (b : Bool) (ds : List D) : Bool := b || ds.all D.scal
theorem RdD.fl {P : Pt} {b : Bool} {G H0 : Hp} {v : V} {d : D} (r : RdD P (rg b G H0) v d) : RdD P (rg (fl b d) G H0) v d := by
  unfold DL.fl
  cases h : d.scal with
  | false => rw [Bool.or_false]; exact r
  | true => exact r.scal h
theorem RdL.fls {P : Pt} {b : Bool} {G H0 : Hp} {vs : List V} {ds : List D} (r : RdL P (rg b G H0) vs ds) : RdL P (rg (fls b ds) G H0) vs ds := by
  unfold DL.fls
  cases h : ds.all D.scal with
  | false => rw [Bool.or_false]; exact r
  | true => exact r.scal h

/-! ### the stream, the state -/
/-- the stream stands; n: how many numbers may still be drawn -/
def Stm (n : Nat) (P : Pt) (H : Hp) : Prop := P.s ≠ P.l ∧ ∃ (ns : List Int) (a b c : Int), H P.s = some (.lst [.ref P.l, .int a, .int b, .int c]) ∧ H P.l = some (.lst (ns.map V.int)) ∧
  0 ≤ a ∧ 0 ≤ b ∧ b + n ≤ 2 ^ 40 ∧ 0 ≤ c ∧ c < 2 ^ 32

/-- what stands of a body's state but its names: G0, H0 at its entry -/
structure Bs (P : Pt) (G0 H0 : Hp) (n : Nat) (G H : Hp) : Prop where
  gh : Sub G H
  g0 : Sub G0 G
  gx : ∀ a, H0 a ≠ none → G a = G0 a ∨ ∃ ys, H0 a = some (.tup ys)
  h0 : ∀ a o, H0 a = some o → a ≠ P.s → a ≠ P.l → H a = some o
  st : Stm n P H
  gs : G P.s = none
  gl : G P.l = none

/-- a name's datum -/
inductive Sl where
  | no
  | v (d : D) (b : Bool)
  | l (xs : List D) (b : Bool)
  | k (ks : List Key) (xs : List D) (b : Bool)
  | kt (ks : List (List Key)) (xs : List D) (b : Bool)
  | sep (d : D)
  | scr
  | o (c : Str) (ns : List Str) (xs : List D) (b : Bool)
abbrev Fr := List Sl
/-- W: the addresses that are its own -/
def SlR (P : Pt) (G H H0 : Hp) (W : Addr → Prop) : Option V → Sl → Prop
  | _, .no => True
  | x, .v d b => ∃ v, x = some v ∧ RdD P (rg b G H0) v d
  | x, .l xs b => ∃ p vs, x = some (.ref p) ∧ W p ∧ H p = some (.lst vs) ∧ RdL P (rg b G H0) vs xs
  | x, .k ks xs b => ∃ p vs, x = some (.ref p) ∧ W p ∧ H p = some (.dK (ks.zip vs)) ∧ ks.length = vs.length ∧ RdL P (rg b G H0) vs xs
  | x, .kt ks xs b => ∃ p vs, x = some (.ref p) ∧ W p ∧ H p = some (.dT (ks.zip vs)) ∧ ks.length = vs.length ∧ RdL P (rg b G H0) vs xs
  | x, .o c ns xs b => ∃ p C dx cs vs, x = some (.ref p) ∧ W p ∧ (P.cl c = some (C, cs) ∧ p = P.me) ∧ H p = some (.ins C dx (ns.zip vs)) ∧ ns.length = vs.length ∧ RdL P (rg b G H0) vs xs
  | x, .scr => ∃ (a : Addr) (Hs : Hp), x = some (.ref a) ∧ P.cl.ok a Hs ∧ ∀ b o, Hs b = some o → b ≠ P.s ∧ b ≠ P.l ∧ H0 b = some o
  | x, .sep d => ∃ (v : V) (S : Hp), x = some v ∧ RdD P S v d ∧ Sub S H ∧ ∀ a o, S a = some o → (∃ xs, o = .tup xs) ∨ W a
/-- the own addresses: kept, apart from one another, from what is frozen, from what stood -/
structure WOk (P : Pt) (G H H0 : Hp) (W : Nat → Addr → Prop) : Prop where
  inj : ∀ i j a, W i a → W j a → i = j
  h : ∀ i a, W i a → H a ≠ none
  g : ∀ i a, W i a → G a = none
  h0 : ∀ i a, W i a → H0 a = none
  s : ∀ i a, W i a → a ≠ P.s ∧ a ≠ P.l
  nt : ∀ i a, W i a → ∀ ys, H a ≠ some (.tup ys)
structure SR (P : Pt) (G0 H0 : Hp) (W : Nat → Addr → Prop) (n : Nat) (σ : L2.St) (f : Fr) (G H : Hp) : Prop where
  bs : Bs P G0 H0 n G H
  wk : WOk P G H H0 W
  len : σ.length = f.length
  sl : ∀ i s, f[i]? = some s → SlR P G H H0 (W i) (σ[i]?).join s

/-- a pure step: nothing that stood has changed but the stream; what is newly frozen is new -/
structure Le (P : Pt) (G H G' H' : Hp) : Prop where
  g : Sub G G'
  gx : ∀ a, H a ≠ none → G' a = G a ∨ ∃ ys, H a = some (.tup ys)
  h : ∀ a o, H a = some o → a ≠ P.s → a ≠ P.l → H' a = some o

section
variable {P : Pt} {G0 H0 G H G' H' G'' H'' : Hp} {W : Nat → Addr → Prop} {n n' : Nat} {σ : L2.St} {f : Fr}
theorem Le.rfl' : Le P G H G H := ⟨Sub.rfl', fun _ _ => .inl rfl, fun _ _ h _ _ => h⟩
theorem Le.trans (b : Bs P G0 H0 n G H) (b1 : Stm n' P H') (x : Le P G H G' H') (y : Le P G' H' G'' H'') : Le P G H G'' H'' where
  g := fun a o h => y.g a o (x.g a o h)
  gx := fun a h => by
    obtain ⟨_, ns, a1, b1', c1, e1, e2, _⟩ := b1
    rcases x.gx a h with e | e
    · by_cases hs : a = P.s
      · rcases y.gx a (by rw [hs, e1]; simp) with z | ⟨ys, z⟩
        · exact .inl (z.trans e)
        · rw [hs, e1] at z; cases z
      · by_cases hl : a = P.l
        · rcases y.gx a (by rw [hl, e2]; simp) with z | ⟨ys, z⟩
          · exact .inl (z.trans e)
          · rw [hl, e2] at z; cases z
        · cases q : H a with
          | none => exact absurd q h
          | some o =>
            have q' := x.h a o q hs hl
            rcases y.gx a (by rw [q']; simp) with z | ⟨ys, z⟩
            · exact .inl (z.trans e)
            · rw [q'] at z; cases z; exact .inr ⟨ys, rfl⟩
    · exact .inr e
  h := fun a o e hs hl => y.h a o (x.h a o e hs hl) hs hl
theorem Bs.le (b : Bs P G0 H0 n G H) (x : Le P G H G' H') (gh : Sub G' H') (st : Stm n' P H') : Bs P G0 H0 n' G' H' where
  gh := gh
  g0 := fun a o h => x.g a o (b.g0 a o h)
  gx := fun a h => by
    rcases b.gx a h with e | e
    · obtain ⟨_, ns, a1, b1', c1, e1, e2, _⟩ := b.st
      by_cases hs : a = P.s
      · rcases x.gx a (by rw [hs, e1]; simp) with z | ⟨ys, z⟩
        · exact .inl (z.trans e)
        · rw [hs, e1] at z; cases z
      · by_cases hl : a = P.l
        · rcases x.gx a (by rw [hl, e2]; simp) with z | ⟨ys, z⟩
          · exact .inl (z.trans e)
          · rw [hl, e2] at z; cases z
        · cases q : H0 a with
          | none => exact absurd q h
          | some o =>
            have q' := b.h0 a o q hs hl
            rcases x.gx a (by rw [q']; simp) with z | ⟨ys, z⟩
            · exact .inl (z.trans e)
            · rw [q'] at z; cases z; exact .inr ⟨ys, rfl⟩
    · exact .inr e
  h0 := fun a o h hs hl => x.h a o (b.h0 a o h hs hl) hs hl
  st := st
  gs := by
    obtain ⟨_, ns, a1, b1', c1, e1, e2, _⟩ := b.st
    rcases x.gx P.s (by rw [e1]; simp) with z | ⟨ys, z⟩
    · exact z.trans b.gs
    · rw [e1] at z; cases z
  gl := by
    obtain ⟨_, ns, a1, b1', c1, e1, e2, _⟩ := b.st
    rcases x.gx P.l (by rw [e2]; simp) with z | ⟨ys, z⟩
    · exact z.trans b.gl
    · rw [e2] at z; cases z
theorem SlR.le {Wi : Addr → Prop} {x : Option V} {s : Sl} (y : Le P G H G' H') (hw : ∀ a, Wi a → a ≠ P.s ∧ a ≠ P.l) (hs : ∀ d, s = .sep d → G P.s = none ∧ G P.l = none)
    (ts : ∀ xs, H P.s ≠ some (.tup xs)) (tl : ∀ xs, H P.l ≠ some (.tup xs)) (r : SlR P G H H0 Wi x s) : SlR P G' H' H0 Wi x s := by
  cases s with
  | no => trivial
  | v d b => obtain ⟨v, e, r⟩ := r; exact ⟨v, e, r.mono (rg_mono y.g)⟩
  | l xs b => obtain ⟨p, vs, e, w, h, r⟩ := r; exact ⟨p, vs, e, w, y.h _ _ h (hw _ w).1 (hw _ w).2, r.mono (rg_mono y.g)⟩
  | k ks xs b => obtain ⟨p, vs, e, w, h, l, r⟩ := r; exact ⟨p, vs, e, w, y.h _ _ h (hw _ w).1 (hw _ w).2, l, r.mono (rg_mono y.g)⟩
  | kt ks xs b => obtain ⟨p, vs, e, w, h, l, r⟩ := r; exact ⟨p, vs, e, w, y.h _ _ h (hw _ w).1 (hw _ w).2, l, r.mono (rg_mono y.g)⟩
  | o c ns xs b => obtain ⟨p, C, dx, cs, vs, e, w, hc, h, l, r⟩ := r; exact ⟨p, C, dx, cs, vs, e, w, hc, y.h _ _ h (hw _ w).1 (hw _ w).2, l, r.mono (rg_mono y.g)⟩
  | scr => exact r
  | sep d =>
    obtain ⟨v, S, e, r, h, m⟩ := r
    refine ⟨v, S, e, r, fun a o q => ?_, m⟩
    have ho := h a o q
    rcases m a o q with ⟨xs, rfl⟩ | w
    · exact y.h _ _ ho (fun z => ts xs (by rw [← z]; exact ho)) (fun z => tl xs (by rw [← z]; exact ho))
    · exact y.h _ _ ho (hw _ w).1 (hw _ w).2
theorem Stm.nots (x : Stm n P H) (xs : List V) : H P.s ≠ some (.tup xs) := by
  obtain ⟨_, ns, a1, b1', c1, e1, e2, _⟩ := x
  rw [e1]; simp
theorem Stm.notl (x : Stm n P H) (xs : List V) : H P.l ≠ some (.tup xs) := by
  obtain ⟨_, ns, a1, b1', c1, e1, e2, _⟩ := x
  rw [e2]; simp
theorem WOk.le (w : WOk P G H H0 W) (y : Le P G H G' H') : WOk P G' H' H0 W where
  inj := w.inj
  h := fun i a q => by
    cases e : H a with
    | none => exact absurd e (w.h i a q)
    | some o => rw [y.h a o e (w.s i a q).1 (w.s i a q).2]; simp
  g := fun i a q => by
    rcases y.gx a (w.h i a q) with z | ⟨ys, z⟩
    · exact z.trans (w.g i a q)
    · exact absurd z (w.nt i a q ys)
  h0 := w.h0
  s := w.s
  nt := fun i a q ys e => by
    cases z : H a with
    | none => exact absurd z (w.h i a q)
    | some o =>
      rw [y.h a o z (w.s i a q).1 (w.s i a q).2] at e
      exact w.nt i a q ys (z.trans e)
theorem SR.le (x : SR P G0 H0 W n σ f G H) (y : Le P G H G' H') (gh : Sub G' H') (st : Stm n' P H') : SR P G0 H0 W n' σ f G' H' :=
  ⟨x.bs.le y gh st, x.wk.le y, x.len, fun i s e => (x.sl i s e).le y (x.wk.s i) (fun _ _ => ⟨x.bs.gs, x.bs.gl⟩) x.bs.st.nots x.bs.st.notl⟩
/-- a new object that is frozen -/
theorem Le.new {p : Addr} {o : HO} (hp : H p = none) (b : Bs P G0 H0 n G H) : Le P G H (upd G p o) (upd H p o) where
  g := fun a u e => by
    have : a ≠ p := fun z => by rw [z] at e; rw [b.gh _ _ e] at hp; cases hp
    rw [upd_ne this]; exact e
  gx := fun a h => by
    have : a ≠ p := fun z => h (by rw [z]; exact hp)
    exact .inl (upd_ne this)
  h := fun a u e _ _ => by
    have : a ≠ p := fun z => by rw [z, hp] at e; cases e
    rw [upd_ne this]; exact e
theorem Bs.sne (b : Bs P G0 H0 n G H) {p : Addr} (hp : H p = none) : p ≠ P.s ∧ p ≠ P.l := by
  obtain ⟨_, ns, a1, b1', c1, e1, e2, _⟩ := b.st
  exact ⟨fun z => (by rw [z, e1] at hp; cases hp), fun z => (by rw [z, e2] at hp; cases hp)⟩
theorem Bs.h0n (b : Bs P G0 H0 n G H) {p : Addr} (hp : H p = none) : H0 p = none := by
  cases q : H0 p with
  | none => rfl
  | some o =>
    rw [b.h0 p o q (b.sne hp).1 (b.sne hp).2] at hp; cases hp
theorem Stm.upd (x : Stm n P H) {p : Addr} {o : HO} (hs : p ≠ P.s) (hl : p ≠ P.l) : Stm n P (L2.upd H p o) := by
  obtain ⟨ne, ns, a, b, c, e1, e2, r⟩ := x
  exact ⟨ne, ns, a, b, c, by rw [upd_ne (Ne.symm hs)]; exact e1, by rw [upd_ne (Ne.symm hl)]; exact e2, r⟩
theorem Sub.upd {p : Addr} {o : HO} (h : Sub G H) : Sub (L2.upd G p o) (L2.upd H p o) := fun a u e => by
  by_cases z : a = p
  · rw [z, upd_same] at e ⊢; exact e
  · rw [upd_ne z] at e ⊢; exact h a u e
/-- .. the state behind it -/
theorem SR.new (x : SR P G0 H0 W n σ f G H) {p : Addr} {o : HO} (hp : H p = none) : SR P G0 H0 W n σ f (L2.upd G p o) (L2.upd H p o) :=
  x.le (Le.new hp x.bs) x.bs.gh.upd (x.bs.st.upd (x.bs.sne hp).1 (x.bs.sne hp).2)
/-- a new object that is not frozen -/
theorem Le.own {p : Addr} {o : HO} (hp : H p = none) : Le P G H G (L2.upd H p o) where
  g := Sub.rfl'
  gx := fun _ _ => .inl rfl
  h := fun a u e _ _ => by
    have : a ≠ p := fun z => by rw [z, hp] at e; cases e
    rw [upd_ne this]; exact e
theorem Sub.updR {p : Addr} {o : HO} (h : Sub G H) (hp : H p = none) : Sub G (L2.upd H p o) := fun a u e => by
  have : a ≠ p := fun z => by rw [z] at e; rw [h _ _ e] at hp; cases hp
  rw [upd_ne this]; exact h a u e
theorem SR.newO (x : SR P G0 H0 W n σ f G H) {p : Addr} {o : HO} (hp : H p = none) : SR P G0 H0 W n σ f G (L2.upd H p o) :=
  x.le (Le.own hp) (x.bs.gh.updR hp) (x.bs.st.upd (x.bs.sne hp).1 (x.bs.sne hp).2)
end
end DL

set_option maxHeartbeats 2000000
/-! DL2: a resolved form of the text (XE, XS ..), what it does with data. -/
namespace DL
open PySem PySem.Spec PyProof.Rows L2

/-- a class that isinstance asks for -/
inductive Ty where
  | t (n : String)
  | c (n : Str)
/-- a built-in of one argument -/
inductive Bi where
  | len | abs | int | sum | all | any | max | min | tuple | repr | minP

mutual
/-- an expression -/
inductive XE where
  | var (i : Nat) | int (i : Int) | str (x : Str) | bl (b : Bool) | non
  | bin (op : Operator) (a b : XE)
  | neg (a : XE)
  | cmp (op : CmpOp) (a b : XO)
  | not (a : XE)
  | andV (es : XEs) | orV (es : XEs)
  | ife (c : XT) (a b : XE)
  | idx (a : XO) (i : XE)
  | nl (l : XL)
  | tup (es : XEs)
  | call (g : Nat) (es : XEs)
  | kcall (g : Nat) (es : XEs) (ks : List Str) (kes : XEs) (ord : List Nat)
  | draw (s m : XE)
  | bi (b : Bi) (a : XO)
  | bi2 (b : Bi) (a c : XE)
  | isi (a : XE) (ts : List Ty) (one : Bool)
  | sc (a : XE)
  | sls (a : XO) (lo hi : XP)
  | rvs (a : XO)
  | emp
  | dctV (l : XL)
  | catT (a b : XE)
  | att (a : XE) (c : Str) (i : Nat)
  | meth (g : Nat) (c : Str) (m : Str) (a : XE) (es : XEs)
  | isc (a : XE) (c : Str)
  | tseg (g : XSg)
  | ixo (a : XO) (e : XE)
  | dsp (kvs : List (Int × Int))
  | rdw (j m : Nat)
/-- a new list -/
inductive XL where
  | lit (es : XEs)
  | cat (a b : XO)
  | rep (a : XO) (m : XE)
  | sl (a : XO) (lo hi : XP)
  | rev (a : XO)
  | of (a : XO)
  | comp (e : XE) (ts : List Nat) (own : List Nat) (it : XI) (c : XTs)
  | seg (g : XSg)
  | srt (a : XO)
  | rngL1 (a : XE)
  | rngL2 (a b : XE)
/-- a list's items, some of them starred -/
inductive XSg where
  | nil
  | one (e : XE) (r : XSg)
  | star (o : XO) (r : XSg)
/-- an operand: a value, or the list that a name has of its own -/
inductive XO where
  | ex (e : XE)
  | own (i : Nat)
/-- what a for walks -/
inductive XI where
  | over (o : XO)
  | rng1 (a : XE)
  | rng2 (a b : XE)
  | rng3 (a b : XE)
  | dctk (l : XL)
  | enum (o : XO)
  | zip (a b : XO)
inductive XP where
  | no
  | yes (e : XE)
inductive XEs where
  | nil
  | cons (e : XE) (es : XEs)
/-- a test -/
inductive XT where
  | tv (e : XE)
  | tc (op : CmpOp) (a b : XO)
  | tn (t : XT)
  | tch (op op' : CmpOp) (a b c : XO)
  | ta (ts : XTs)
  | to (ts : XTs)
inductive XTs where
  | nil
  | cons (t : XT) (ts : XTs)
end

def XEs.len : XEs → Nat
  | .nil => 0
  | .cons _ es => es.len + 1
inductive XR where
  | e (e : XE)
  | l (l : XL)
  | k
  | kt
mutual
inductive XS where
  | asg (i : Nat) (r : XR)
  | par2 (i j : Nat) (r s : XR)
  | par (ts : List Nat) (rs : List XR)
  | unp (ts : List Nat) (e : XE)
  | setL (i : Nat) (ix e : XE)
  | setK (i : Nat) (key e : XE)
  | app (i : Nat) (e : XE)
  | appP (i j : Nat) (e : XE)
  | expr (e : XE)
  | ret (e : XE)
  | retN
  | ife (c : XT) (a b : XSs)
  | whl (c : XT) (b : XSs)
  | for (ts : List Nat) (it : XI) (b : XSs)
  | frz (i : Nat) (s : XS)
  | asgS (i : Nat) (e : XE)
  | spoil (i : Nat)
  | spoilE (i : Nat) (e : XE)
  | appS (i : Nat) (e : XE)
  | asgV (i : Nat) (e : XE)
  | parS (i j : Nat) (a b : XE)
  | lateP (i k : Nat)
  | lateF (i j : Nat)
  | pop (i : Nat)
  | ext (i : Nat) (o : XO)
  | setF (i : Nat) (c : Str) (fn : Str) (e : XE)
inductive XSs where
  | nil
  | nev
  | cons (s : XS) (ss : XSs)
  | ini (c : Str) (ns : List Str) (b : XSs)
end

/-! ### operations on data -/
abbrev DB := D × Bool
def MulOk (i j : Int) : Prop := CMulW i j ∨ CMul i j
def binD : Operator → DB → DB → (DB → Prop) → Prop
  | .Add, (.int i, _), (.int j, _), k => k (.int (i + j), true)
  | .Sub, (.int i, _), (.int j, _), k => k (.int (i - j), true)
  | .Mult, (.int i, _), (.int j, _), k => MulOk i j ∧ k (.int (i * j), true)
  | .FloorDiv, (.int i, _), (.int j, _), k => CDivW i j ∧ k (.int (i / j), true)
  | .Mod, (.int i, _), (.int j, _), k => 0 < j ∧ k (.int (i % j), true)
  | .Pow, (.int i, _), (.int j, _), k => CPow i j ∧ k (.int (i ^ j.toNat), true)
  | .Add, (.str x, _), (.str y, _), k => x.length + y.length ≤ sizeLine ∧ k (.str (x ++ y), true)
  | _, _, _, _ => False
mutual
def D.toP : D → Option PyData
  | .non => some .none
  | .bl b => some (.bool b)
  | .int i => some (.int i)
  | .str x => some (.str x)
  | .lst xs => (D.toPs xs).map .list
  | .tup xs => (D.toPs xs).map .tuple
  | _ => none
def D.toPs : List D → Option (List PyData)
  | [] => some []
  | d :: ds => match d.toP, D.toPs ds with
    | some p, some ps => some (p :: ps)
    | _, _ => none
end
def D.toV : D → V
  | .bl b => .bl b
  | .int i => .int i
  | .str x => .str x
  | _ => .non
def D.key : D → Option Key
  | .int i => some (.inl i)
  | .str x => some (.inr x)
  | _ => none
def keyD : Key → D
  | .inl i => .int i
  | .inr x => .str x
def keysOf : List D → Option (List Key)
  | [] => some []
  | d :: ds => match d.key, keysOf ds with
    | some k, some ks => some (k :: ks)
    | _, _ => none
/-- the keys of pairs -/
def pairKeys : List D → Option (List Key)
  | [] => some []
  | .tup [a, b] :: ds => match a.key, pairKeys ds with
    | some j, some js => some (j :: js)
    | _, _ => none
  | _ :: _ => none
/-- what stands under a key -/
def lookK {κ : Type} [DecidableEq κ] : List κ → List D → κ → Option D
  | k :: ks, x :: xs, j => if k = j then some x else lookK ks xs j
  | _, _, _ => none
/-- a store under a key -/
def putKs {κ : Type} [DecidableEq κ] (ks : List κ) (j : κ) : List κ := if j ∈ ks then ks else ks ++ [j]
def putXs {κ : Type} [DecidableEq κ] (ks : List κ) (xs : List D) (j : κ) (y : D) : List D := if j ∈ ks then List.zipWith (fun k x => if k = j then y else x) ks xs else xs ++ [y]
def D.isNon : D → Bool
  | .non => true
  | _ => false
def cmpD : CmpOp → D → D → (Bool → Prop) → Prop
  | .Eq, x, y, k => ∃ p q, x.toP = some p ∧ y.toP = some q ∧ SeqAt.shaped p = true ∧ SeqAt.shaped q = true ∧ k (PyData.eqv p q)
  | .NotEq, .dic _ _, .lst _, k => k true
  | .NotEq, x, y, k => ∃ p q, x.toP = some p ∧ y.toP = some q ∧ SeqAt.shaped p = true ∧ SeqAt.shaped q = true ∧ k (!PyData.eqv p q)
  | .Lt, .int i, .int j, k => k (decide (i < j))
  | .LtE, .int i, .int j, k => k (decide (i ≤ j))
  | .Gt, .int i, .int j, k => k (decide (j < i))
  | .GtE, .int i, .int j, k => k (decide (j ≤ i))
  | .Is, x, .non, k => k x.isNon
  | .IsNot, x, .non, k => k (!x.isNon)
  | .In, x, .dic ks xs, k => ∃ j, x.key = some j ∧ k (lookK ks xs j).isSome
  | .NotIn, x, .dic ks xs, k => ∃ j, x.key = some j ∧ k (!(lookK ks xs j).isSome)
  | .In, .tup ys, .dit ks xs, k => ∃ j, keysOf ys = some j ∧ k (lookK ks xs j).isSome
  | .NotIn, .tup ys, .dit ks xs, k => ∃ j, keysOf ys = some j ∧ k (!(lookK ks xs j).isSome)
  | .In, x, .lst xs, k => x.scal = true ∧ xs.all D.scal = true ∧ k (inV x.toV (xs.map D.toV))
  | .NotIn, x, .lst xs, k => x.scal = true ∧ xs.all D.scal = true ∧ k (!inV x.toV (xs.map D.toV))
  | .In, x, .tup xs, k => x.scal = true ∧ xs.all D.scal = true ∧ k (inV x.toV (xs.map D.toV))
  | .NotIn, x, .tup xs, k => x.scal = true ∧ xs.all D.scal = true ∧ k (!inV x.toV (xs.map D.toV))
  | _, _, _, _ => False
def idxD : DB → DB → (DB → Prop) → Prop
  | (.lst xs, b), (.int i, _), k => ∃ d, atI xs i = some d ∧ k (d, fl b d)
  | (.tup xs, b), (.int i, _), k => ∃ d, atI xs i = some d ∧ k (d, fl b d)
  | (.str x, _), (.int i, _), k => x.length ≤ sizeLine ∧ ∃ c, atI x.cps.toList i = some c ∧ k (.str ⟨#[c]⟩, true)
  | (.dic ks xs, b), (x, _), k => ∃ j d, x.key = some j ∧ lookK ks xs j = some d ∧ k (d, fl b d)
  | (.dit ks xs, b), (.tup ys, _), k => ∃ j d, keysOf ys = some j ∧ lookK ks xs j = some d ∧ k (d, fl b d)
  | _, _, _ => False
def truD : D → Option Bool
  | .non => some false
  | .bl b => some b
  | .int i => some (i != 0)
  | .lst xs => some (!xs.isEmpty)
  | .tup xs => some (!xs.isEmpty)
  | .dic ks _ => some (!ks.isEmpty)
  | _ => none
def D.ty : D → String
  | .non => "NoneType" | .bl _ => "bool" | .int _ => "int" | .str _ => "str"
  | .lst _ => "list" | .strm => "list" | .tup _ => "tuple" | .dic .. => "dict" | .dit .. => "dict" | .ins .. => "object"
def isT (d : D) : Ty → Option Bool
  | .t n => match d with
    | .ins _ _ => none
    | .strm => none
    | _ => kitB d.ty n
  | .c n => match d with
    | .ins c _ => some (decide (c = n))
    | _ => none
def isTs (d : D) : List Ty → Option Bool
  | [] => some false
  | t :: ts => match isT d t with
    | some true => some true
    | some false => isTs d ts
    | none => none
/-- isinstance of an own class -/
def isC : D → Str → Option Bool
  | .ins c _, n => if c = n then some true else none
  | .strm, _ => none
  | _, _ => some false
def intsOf : List D → Option (List Int)
  | [] => some []
  | .int i :: ds => (intsOf ds).map (i :: ·)
  | _ :: _ => none
def blsOf : List D → Option (List Bool)
  | [] => some []
  | .bl i :: ds => (blsOf ds).map (i :: ·)
  | _ :: _ => none
/-- pairs of whole numbers -/
def pairsOf : List D → Option (List (Int × Int))
  | [] => some []
  | .tup [.int a, .int b] :: ds => (pairsOf ds).map ((a, b) :: ·)
  | _ :: _ => none
def pairD (p : Int × Int) : D := .tup [.int p.1, .int p.2]
/-- the first of the least -/
def ltP (p q : Int × Int) : Bool := if p.1 = q.1 then decide (p.2 < q.2) else decide (p.1 < q.1)
def leastP (p : Int × Int) (ps : List (Int × Int)) : Int × Int := ps.foldl (fun a y => if ltP y a = true then y else a) p
def biD : Bi → DB → (DB → Prop) → Prop
  | .len, (.lst xs, _), k => k (.int xs.length, true)
  | .len, (.tup xs, _), k => k (.int xs.length, true)
  | .len, (.str x, _), k => x.length ≤ sizeLine ∧ k (.int x.length, true)
  | .len, (.dic ks _, _), k => k (.int ks.length, true)
  | .len, (.dit ks _, _), k => k (.int ks.length, true)
  | .abs, (.int i, _), k => k (.int (if i < 0 then -i else i), true)
  | .int, (.int i, _), k => k (.int i, true)
  | .sum, (.lst xs, _), k => ∃ ns, intsOf xs = some ns ∧ k (.int ns.sum, true)
  | .all, (.lst xs, _), k => ∃ bs, blsOf xs = some bs ∧ k (.bl (bs.all id), true)
  | .any, (.lst xs, _), k => ∃ bs, blsOf xs = some bs ∧ k (.bl (bs.any id), true)
  | .max, (.lst xs, _), k => ∃ ns, intsOf xs = some ns ∧ 0 < ns.length ∧ ∀ m, m ∈ ns → (∀ y, y ∈ ns → y ≤ m) → k (.int m, true)
  | .min, (.lst xs, _), k => ∃ ns, intsOf xs = some ns ∧ 0 < ns.length ∧ ∀ m, m ∈ ns → (∀ y, y ∈ ns → m ≤ y) → k (.int m, true)
  | .minP, (.lst xs, b), k => ∃ p ps, pairsOf xs = some (p :: ps) ∧ k (pairD (leastP p ps), b)
  | .tuple, (.lst xs, b), k => k (.tup xs, fls b xs)
  | .tuple, (.tup xs, b), k => k (.tup xs, b)
  | .repr, (.lst xs, _), k => ∃ p, (D.lst xs).toP = some p ∧ p.showable = true ∧ p.hasDict = false ∧ p.depth ≤ 60 ∧ p.shown.length ≤ sizeLine ∧ k (.str p.shown, true)
  | .repr, (.non, _), k => k (.str "None", true)
  | .repr, (.bl b, _), k => k (.str (if b = true then "True" else "False"), true)
  | .repr, (.int i, _), k => i.natAbs.log2 < 1920 ∧ k (.str (toString i), true)
  | .repr, (.str x, _), k => (reprText x).length ≤ sizeLine ∧ k (.str (reprText x), true)
  | .repr, (.dic ks _, _), k => ks = [] ∧ k (.str "{}", true)
  | .repr, (.tup xs, _), k => ∃ p, (D.tup xs).toP = some p ∧ p.showable = true ∧ p.hasDict = false ∧ p.depth ≤ 60 ∧ p.shown.length ≤ sizeLine ∧ k (.str p.shown, true)
  | _, _, _ => False
def bi2D : Bi → DB → DB → (DB → Prop) → Prop
  | .max, (.int i, _), (.int j, _), k => k (.int (if j > i then j else i), true)
  | .min, (.int i, _), (.int j, _), k => k (.int (if j < i then j else i), true)
  | _, _, _, _ => False
/-- x[lo:hi] -/
def cutD (xs : List D) (lo hi : Option Int) : List D := (xs.drop (HT.sIx xs.length 0 lo)).take (HT.sIx xs.length xs.length hi - HT.sIx xs.length 0 lo)

/-! ### frames -/
def viewS : Sl → Sl
  | .l xs b => .v (.lst xs) false
  | .k ks xs b => .v (.dic ks xs) false
  | .kt ks xs b => .v (.dit ks xs) false
  | .v d b => .v d (d.scal)
  | .sep d => .v d false
  | .o _ _ _ _ => .no
  | .no => .no
  | .scr => .no
def view (f : Fr) : Fr := f.map viewS
/-- one name's value, nothing else -/
def onlyF (is : List Nat) : Nat → Fr → Fr
  | _, [] => []
  | m, s :: f => (if is.contains m = true then viewS s else .no) :: onlyF is (m + 1) f
def setTs : Fr → List Nat → List DB → Option Fr
  | f, [], [] => some f
  | f, t :: ts, x :: xs => setTs (f.set t (.v x.1 x.2)) ts xs
  | _, _, _ => none
/-- a target's store: one name, or a pair's parts, or a tuple's -/
def bindT (f : Fr) : List Nat → List DB → Option Fr
  | [t], [x] => some (f.set t (.v x.1 x.2))
  | ts, [(.tup xs, b)] => setTs f ts (xs.map fun d => (d, fl b d))
  | ts, vs => setTs f ts vs
def wipeF (f : Fr) : List Nat → Fr
  | [] => f
  | v :: vs => (wipeF f vs).set v .no

/-! ### what may be spoilt -/
mutual
def D.mut : D → Bool
  | .non => true | .bl _ => true | .int _ => true | .str _ => true
  | .lst xs => D.muts xs
  | .tup xs => D.muts xs
  | _ => false
def D.muts : List D → Bool
  | [] => true
  | d :: ds => d.mut && D.muts ds
end
mutual
def D.dep : D → Nat
  | .lst xs => D.deps xs + 1
  | .tup xs => D.deps xs + 1
  | _ => 0
def D.deps : List D → Nat
  | [] => 0
  | d :: ds => max d.dep (D.deps ds)
end
mutual
def D.nod : D → Nat
  | .lst xs => D.nods xs + 1
  | .tup xs => D.nods xs
  | _ => 0
def D.nods : List D → Nat
  | [] => 0
  | d :: ds => d.nod + D.nods ds
end
mutual
def D.mx : D → Nat
  | .lst xs => max xs.length (D.mxs xs)
  | .tup xs => D.mxs xs
  | _ => 0
def D.mxs : List D → Nat
  | [] => 0
  | d :: ds => max d.mx (D.mxs ds)
end
def D.spo (d : D) : Bool := d.mut && decide (d.dep ≤ 10) && decide (d.mx + d.nod ≤ sizeLine)
/-! ### what it does -/
abbrev KE := DB → Nat → Prop
def compGo (turn : List DB → Nat → (Option DB → Nat → Prop) → Prop) : List (List DB) → List D → Bool → Nat → (List D → Bool → Nat → Prop) → Prop
  | [], acc, b, n, k => k acc b n
  | it :: its, acc, b, n, k => turn it n fun r n' => match r with
    | none => compGo turn its acc b n' k
    | some r => acc.length < sizeLine ∧ compGo turn its (acc ++ [r.1]) (b && r.2) n' k
def pick {α : Type} (xs : List α) : List Nat → Option (List α)
  | [] => some []
  | i :: is => match xs[i]?, pick xs is with
    | some x, some r => some (x :: r)
    | _, _ => none

/-- a drawn number -/
def drawD : D → D → Nat → KE → Prop
  | .strm, .int m, n3 + 1, k => 0 < m ∧ m < 2 ^ 62 ∧ ∀ d : Int, 0 ≤ d → d < m → k (.int d, true) n3
  | _, _, _, _ => False
theorem drawD_ok {n : Nat} {k : KE} {m : Int} (h0 : 0 < m) (hm : m < 2 ^ 62) (hn : 1 ≤ n) (h : ∀ d : Int, 0 ≤ d → d < m → k (.int d, true) (n - 1)) : drawD .strm (.int m) n k := by
  cases n with
  | zero => exact absurd hn (by decide)
  | succ n => exact ⟨h0, hm, h⟩
/-- a list comprehension over an empty dict -/
def empC : XL → Fr → Bool
  | .comp _ _ _ (.over (.ex (.var i))) _, f => match f[i]? with
    | some (.v (.dic [] []) _) => true
    | _ => false
  | _, _ => false
section
variable (cf : Nat → List D → Nat → KE → Prop)
mutual
def evE : XE → Fr → Nat → KE → Prop
  | .var i, f, n, k => match f[i]? with
    | some (.v d b) => k (d, b) n
    | _ => False
  | .int i, _, n, k => k (.int i, true) n
  | .str x, _, n, k => k (.str x, true) n
  | .bl b, _, n, k => k (.bl b, true) n
  | .non, _, n, k => k (.non, true) n
  | .bin op a b, f, n, k => evE a f n fun x n1 => evE b f n1 fun y n2 => binD op x y fun r => k r n2
  | .neg a, f, n, k => evE a f n fun x n1 => match x.1 with
    | .int i => k (.int (-i), true) n1
    | _ => False
  | .cmp op a b, f, n, k => evO a f n fun x n1 => evO b f n1 fun y n2 => cmpD op x.1 y.1 fun c => k (.bl c, true) n2
  | .not a, f, n, k => evE a f n fun x n1 => match x.1 with
    | .bl c => k (.bl (!c), true) n1
    | _ => False
  | .andV es, f, n, k => evAnd es f n k
  | .orV es, f, n, k => evOr es f n k
  | .ife c a b, f, n, k => evT c f n fun t n1 => if t = true then evE a f n1 k else evE b f n1 k
  | .idx a i, f, n, k => evO a f n fun x n1 => evE i f n1 fun y n2 => idxD x y fun r => k r n2
  | .nl l, f, n, k => evL l f n fun xs b n1 => k (.lst xs, fls b xs) n1
  | .tup es, f, n, k => evEs es f n fun xs b n1 => xs.length ≤ sizeLine ∧ k (.tup xs, b) n1
  | .call g es, f, n, k => evEs es f n fun xs _ n1 => cf g xs n1 k
  | .kcall g es ks kes ord, f, n, k => evEs es f n fun xs _ n1 => evEs kes f n1 fun ys _ n2 => ∃ zs, xs.length = es.len ∧ ys.length = ks.length ∧ pick (xs ++ ys) ord = some zs ∧ cf g zs n2 k
  | .draw s m, f, n, k => evE s f n fun x n1 => evE m f n1 fun y n2 => drawD x.1 y.1 n2 k
  | .bi b a, f, n, k => evO a f n fun x n1 => biD b x fun r => k r n1
  | .bi2 b a c, f, n, k => evE a f n fun x n1 => evE c f n1 fun y n2 => bi2D b x y fun r => k r n2
  | .isi a ts _, f, n, k => evE a f n fun x n1 => ∃ c, isTs x.1 ts = some c ∧ k (.bl c, true) n1
  | .sc a, f, n, k => evE a (view f) n fun x n1 => x.1.scal = true ∧ k (x.1, true) n1
  | .sls a lo hi, f, n, k => evO a f n fun x n1 => evP lo f n1 fun i n2 => evP hi f n2 fun j n3 => match x with
    | (.lst xs, b) => k (.lst (cutD xs i j), b) n3
    | (.tup xs, b) => k (.tup (cutD xs i j), b) n3
    | _ => False
  | .rvs a, f, n, k => evO a f n fun x n1 => match x with
    | (.lst xs, b) => k (.lst xs.reverse, b) n1
    | (.tup xs, b) => k (.tup xs.reverse, b) n1
    | _ => False
  | .emp, _, n, k => k (.dic [] [], true) n
  | .dctV l, f, n, k => empC l f = true ∧ k (.dic [] [], true) n
  | .catT a b, f, n, k => evE a f n fun x n1 => evE b f n1 fun y n2 => match x, y with
    | (.tup xs, b), (.tup ys, c) => xs ≠ [] ∧ ys ≠ [] ∧ xs.length + ys.length ≤ sizeLine ∧ k (.tup (xs ++ ys), b && c) n2
    | _, _ => False
  | .att a c i, f, n, k => evE a f n fun x n1 => match x with
    | (.ins c2 fs, b) => c2 = c ∧ ∃ d, fs[i]? = some d ∧ k (d, fl b d) n1
    | _ => False
  | .meth g c _ a es, f, n, k => evE a f n fun x n1 => match x.1 with
    | .ins c2 fs => c2 = c ∧ evEs es f n1 fun xs _ n2 => cf g (.ins c2 fs :: xs) n2 k
    | _ => False
  | .tseg g, f, n, k => evSg g f n fun xs b n1 => xs.length ≤ sizeLine ∧ k (.tup xs, b) n1
  | .rdw j m, f, n, k => f[j]? = some .scr ∧ 0 < (m : Int) ∧ (m : Int) < 2 ^ 62 ∧ ∀ d : Int, 0 ≤ d → d < m → k (.int d, true) n
  | .dsp kvs, _, n, k => k (.dic (kvs.map fun kv => .inl kv.1) (kvs.map fun kv => .int kv.2), true) n
  | .ixo a e, f, n, k => evO a f n fun x n1 => match x with
    | (.lst xs, _) => evE e f n1 fun y n2 => match y.1 with
      | .int m => ∃ ns j, intsOf xs = some ns ∧ ns[j]? = some m ∧ (∀ i, i < j → ns[i]? ≠ some m) ∧ k (.int (j : Nat), true) n2
      | _ => False
    | _ => False
  | .isc a c, f, n, k => evE a f n fun x n1 => ∃ r, isC x.1 c = some r ∧ k (.bl r, true) n1
def evL : XL → Fr → Nat → (List D → Bool → Nat → Prop) → Prop
  | .lit es, f, n, k => evEs es f n fun xs b n1 => xs.length ≤ sizeLine ∧ k xs b n1
  | .cat a b, f, n, k => evO a f n fun x n1 => evO b f n1 fun y n2 => match x, y with
    | (.lst xs, b), (.lst ys, c) => xs.length + ys.length ≤ sizeLine ∧ k (xs ++ ys) (fls b xs && fls c ys) n2
    | _, _ => False
  | .rep a m, f, n, k => evO a f n fun x n1 => evE m f n1 fun y n2 => match x, y.1 with
    | (.lst xs, b), .int m => -(2 ^ 63) ≤ m ∧ m < 2 ^ 63 ∧ xs.length * m.toNat ≤ sizeLine ∧ k (List.replicate m.toNat xs).flatten (fls b xs) n2
    | _, _ => False
  | .sl a lo hi, f, n, k => evO a f n fun x n1 => evP lo f n1 fun i n2 => evP hi f n2 fun j n3 => match x with
    | (.lst xs, b) => k (cutD xs i j) (fls b xs) n3
    | _ => False
  | .rev a, f, n, k => evO a f n fun x n1 => match x with
    | (.lst xs, b) => k xs.reverse (fls b xs) n1
    | _ => False
  | .of a, f, n, k => evO a f n fun x n1 => match x with
    | (.lst xs, b) => k xs (fls b xs) n1
    | (.tup xs, b) => k xs (fls b xs) n1
    | (.dic ks _, _) => k (ks.map keyD) true n1
    | (.dit ks _, _) => k (ks.map fun ys => .tup (ys.map keyD)) false n1
    | _ => False
  | .comp e ts own it c, f, n, k => evI it f n fun items n1 => compGo (fun vs n k => ∃ f', bindT (wipeF f own) ts vs = some f' ∧ evTall c f' n fun t n1 => if t = true then evE e f' n1 fun r n2 => k (some r) n2 else k none n1) items [] true n1 k
  | .seg g, f, n, k => evSg g f n fun xs b n1 => xs.length ≤ sizeLine ∧ k xs b n1
  | .srt a, f, n, k => evO a f n fun x n1 => match x with
    | (.lst xs, _) => ∃ ns, intsOf xs = some ns ∧ ∀ ms : List Int, ms.Perm ns → ms.Pairwise (· ≤ ·) → k (ms.map D.int) true n1
    | _ => False
  | .rngL1 a, f, n, k => evE a f n fun x n1 => match x.1 with
    | .int j => (-(2 ^ 62) ≤ j ∧ j ≤ 2 ^ 24) ∧ k ((List.range j.toNat).map fun i => .int (i : Nat)) true n1
    | _ => False
  | .rngL2 a b, f, n, k => evE a f n fun x n1 => evE b f n1 fun y n2 => match x.1, y.1 with
    | .int i, .int j => (-(2 ^ 62) ≤ i ∧ i < 2 ^ 62 ∧ -(2 ^ 62) ≤ j ∧ j < 2 ^ 62 ∧ (j - i).toNat ≤ 2 ^ 24) ∧ k ((List.range (j - i).toNat).map fun (m : Nat) => .int (i + m)) true n2
    | _, _ => False
def evSg : XSg → Fr → Nat → (List D → Bool → Nat → Prop) → Prop
  | .nil, _, n, k => k [] true n
  | .one e r, f, n, k => evE e f n fun x n1 => evSg r f n1 fun xs b n2 => k (x.1 :: xs) (x.2 && b) n2
  | .star o r, f, n, k => evO o f n fun x n1 => match x with
    | (.lst xs, b) => evSg r f n1 fun ys c n2 => k (xs ++ ys) (fls b xs && c) n2
    | (.tup xs, b) => evSg r f n1 fun ys c n2 => k (xs ++ ys) (fls b xs && c) n2
    | _ => False
def evO : XO → Fr → Nat → KE → Prop
  | .ex e, f, n, k => evE e f n k
  | .own i, f, n, k => match f[i]? with
    | some (.l xs b) => k (.lst xs, b) n
    | some (.k ks xs b) => k (.dic ks xs, b) n
    | some (.kt ks xs b) => k (.dit ks xs, b) n
    | _ => False
def evI : XI → Fr → Nat → (List (List DB) → Nat → Prop) → Prop
  | .over o, f, n, k => evO o f n fun x n1 => match x with
    | (.lst xs, b) => k (xs.map fun d => [(d, fl b d)]) n1
    | (.tup xs, b) => k (xs.map fun d => [(d, fl b d)]) n1
    | _ => False
  | .rng1 a, f, n, k => evE a f n fun x n1 => match x.1 with
    | .int j => -(2 ^ 62) ≤ j ∧ j < 2 ^ 62 ∧ k ((List.range j.toNat).map fun i => [(.int (i : Nat), true)]) n1
    | _ => False
  | .rng2 a b, f, n, k => evE a f n fun x n1 => evE b f n1 fun y n2 => match x.1, y.1 with
    | .int i, .int j => (-(2 ^ 62) ≤ i ∧ i < 2 ^ 62 ∧ -(2 ^ 62) ≤ j ∧ j < 2 ^ 62) ∧ k ((List.range (j - i).toNat).map fun (m : Nat) => [(.int (i + m), true)]) n2
    | _, _ => False
  | .rng3 a b, f, n, k => evE a f n fun x n1 => evE b f n1 fun y n2 => match x.1, y.1 with
    | .int i, .int j => (-(2 ^ 62) ≤ i ∧ i < 2 ^ 62 ∧ -(2 ^ 62) ≤ j ∧ j < 2 ^ 62) ∧ k ((List.range (i - j).toNat).map fun (m : Nat) => [(.int (i - m), true)]) n2
    | _, _ => False
  | .dctk l, f, n, k => evL l f n fun xs b n1 => ∃ ks, pairKeys xs = some ks ∧ k ((ks.foldl putKs []).map fun j => [((keyD j, true) : DB)]) n1
  | .enum o, f, n, k => evO o f n fun x n1 => match x with
    | (.lst xs, b) => k ((List.range xs.length).zipWith (fun i d => [(.int (i : Nat), true), (d, fl b d)]) xs) n1
    | (.tup xs, b) => k ((List.range xs.length).zipWith (fun i d => [(.int (i : Nat), true), (d, fl b d)]) xs) n1
    | _ => False
  | .zip a b, f, n, k => evO a f n fun x n1 => evO b f n1 fun y n2 => match x, y with
    | (.lst xs, b), (.lst ys, c) => k (List.zipWith (fun d e => [(d, fl b d), (e, fl c e)]) xs ys) n2
    | (.tup xs, b), (.tup ys, c) => k (List.zipWith (fun d e => [(d, fl b d), (e, fl c e)]) xs ys) n2
    | _, _ => False
def evP : XP → Fr → Nat → (Option Int → Nat → Prop) → Prop
  | .no, _, n, k => k none n
  | .yes e, f, n, k => evE e f n fun x n1 => match x.1 with
    | .int i => k (some i) n1
    | _ => False
def evEs : XEs → Fr → Nat → (List D → Bool → Nat → Prop) → Prop
  | .nil, _, n, k => k [] true n
  | .cons e es, f, n, k => evE e f n fun x n1 => evEs es f n1 fun xs b n2 => k (x.1 :: xs) (x.2 && b) n2
def evAnd : XEs → Fr → Nat → KE → Prop
  | .nil, _, _, _ => False
  | .cons e es, f, n, k => match es with
    | .nil => evE e f n k
    | .cons _ _ => evE e f n fun x n1 => match x.1 with
      | .bl c => if c = true then evAnd es f n1 k else k (.bl false, true) n1
      | _ => False
def evOr : XEs → Fr → Nat → KE → Prop
  | .nil, _, _, _ => False
  | .cons e es, f, n, k => match es with
    | .nil => evE e f n k
    | .cons _ _ => evE e f n fun x n1 => match x.1 with
      | .bl c => if c = true then k (.bl true, true) n1 else evOr es f n1 k
      | _ => False
def evT : XT → Fr → Nat → (Bool → Nat → Prop) → Prop
  | .tv e, f, n, k => evE e f n fun x n1 => ∃ c, truD x.1 = some c ∧ k c n1
  | .tc op a b, f, n, k => evO a f n fun x n1 => evO b f n1 fun y n2 => cmpD op x.1 y.1 fun c => k c n2
  | .tn t, f, n, k => evT t f n fun c n1 => k (!c) n1
  | .tch op op' a b c, f, n, k => evO a f n fun x n1 => evO b f n1 fun y n2 => cmpD op x.1 y.1 fun c1 => if c1 = true then evO c f n2 fun z n3 => cmpD op' y.1 z.1 fun c2 => k c2 n3 else k false n2
  | .ta ts, f, n, k => evTall ts f n k
  | .to ts, f, n, k => evTany ts f n k
def evTall : XTs → Fr → Nat → (Bool → Nat → Prop) → Prop
  | .nil, _, n, k => k true n
  | .cons t ts, f, n, k => evT t f n fun c n1 => if c = true then evTall ts f n1 k else k false n1
def evTany : XTs → Fr → Nat → (Bool → Nat → Prop) → Prop
  | .nil, _, n, k => k false n
  | .cons t ts, f, n, k => evT t f n fun c n1 => if c = true then k true n1 else evTany ts f n1 k
end
end
end DL

set_option maxHeartbeats 2000000
/-! DL3: statements, functions; the look that a resolved form is that of a text. -/
namespace DL
open PySem PySem.Spec PyProof.Rows L2

structure DE where
  nx : Fr → Nat → Prop
  rt : KE
  ct : Fr → Nat → Prop := fun _ _ => False
def forGo (turn : List DB → Fr → Nat → DE → Prop) : List (List DB) → DE → Fr → Nat → Prop
  | [], K, f, n => K.nx f n
  | it :: its, K, f, n => turn it f n ⟨fun f n => forGo turn its K f n, K.rt, fun f n => forGo turn its K f n⟩
def whGo (test : Fr → Nat → (Bool → Nat → Prop) → Prop) (body : DE → Fr → Nat → Prop) : Nat → DE → Fr → Nat → Prop
  | 0, _, _, _ => False
  | m + 1, K, f, n => test f n fun c n1 => if c = true then body ⟨fun f n => whGo test body m K f n, K.rt, fun f n => whGo test body m K f n⟩ f n1 else K.nx f n1
def frzS : Sl → Option Sl
  | .l xs b => some (.v (.lst xs) b)
  | .k ks xs b => some (.v (.dic ks xs) b)
  | .kt ks xs b => some (.v (.dit ks xs) b)
  | _ => none
def setSs : Fr → List Nat → List Sl → Fr
  | f, t :: ts, s :: ss => setSs (f.set t s) ts ss
  | f, _, _ => f
section
variable (cf : Nat → List D → Nat → KE → Prop)
def evR : XR → Fr → Nat → (Sl → Nat → Prop) → Prop
  | .e e, f, n, k => evE cf e f n fun r n1 => k (.v r.1 r.2) n1
  | .l l, f, n, k => evL cf l f n fun xs b n1 => k (.l xs (fls b xs)) n1
  | .k, _, n, k => k (.k [] [] true) n
  | .kt, _, n, k => k (.kt [] [] true) n
def evRs : List XR → Fr → Nat → (List Sl → Nat → Prop) → Prop
  | [], _, n, k => k [] n
  | r :: rs, f, n, k => evR cf r f n fun s n1 => evRs rs f n1 fun ss n2 => k (s :: ss) n2
mutual
def evS : XS → DE → Fr → Nat → Prop
  | .asg i r, K, f, n => evR cf r f n fun s n1 => K.nx (f.set i s) n1
  | .par2 i j r s, K, f, n => evR cf r f n fun a n1 => evR cf s f n1 fun b n2 => K.nx ((f.set i a).set j b) n2
  | .par ts rs, K, f, n => evRs cf rs f n fun ss n1 => ss.length = ts.length ∧ K.nx (setSs f ts ss) n1
  | .unp ts e, K, f, n => evE cf e f n fun x n1 => match x with
    | (.tup xs, b) => xs.length = ts.length ∧ ∃ f', setTs f ts (xs.map fun d => (d, fl b d)) = some f' ∧ K.nx f' n1
    | (.lst xs, b) => xs.length = ts.length ∧ ∃ f', setTs f ts (xs.map fun d => (d, fl b d)) = some f' ∧ K.nx f' n1
    | _ => False
  | .setL i ix e, K, f, n => match f[i]? with
    | some (.l xs b) => evE cf e f n fun x n1 => evE cf ix f n1 fun y n2 => match y.1 with
      | .int m => ∃ j, ixN xs.length m = some j ∧ K.nx (f.set i (.l (xs.set j x.1) (b && x.2))) n2
      | _ => False
    | _ => False
  | .setK i key e, K, f, n => match f[i]? with
    | some (.k ks xs b) => evE cf e f n fun x n1 => evE cf key f n1 fun y n2 => ∃ j, y.1.key = some j ∧ ks.length < sizeLine ∧ K.nx (f.set i (.k (putKs ks j) (putXs ks xs j x.1) (b && x.2))) n2
    | some (.kt ks xs b) => evE cf e f n fun x n1 => evE cf key f n1 fun y n2 => match y.1 with
      | .tup ys => ∃ j, keysOf ys = some j ∧ ks.length < sizeLine ∧ K.nx (f.set i (.kt (putKs ks j) (putXs ks xs j x.1) (b && x.2))) n2
      | _ => False
    | _ => False
  | .app i e, K, f, n => match f[i]? with
    | some (.l xs b) => evE cf e f n fun x n1 => xs.length < sizeLine ∧ K.nx (f.set i (.l (xs ++ [x.1]) (b && x.2))) n1
    | _ => False
  | .appP i j e, K, f, n => match f[i]?, f[j]? with
    | some (.l xs b), some (.l ys c) => evE cf e f n fun x n1 => match x.1 with
      | .int m => ∃ t d, ixN ys.length m = some t ∧ ys[t]? = some d ∧ xs.length < sizeLine ∧ ys.length ≤ sizeLine ∧ K.nx ((f.set j (.l (ys.eraseIdx t) c)).set i (.l (xs ++ [d]) (b && fl c d))) n1
      | _ => False
    | _, _ => False
  | .expr e, K, f, n => evE cf e f n fun _ n1 => K.nx f n1
  | .ret e, K, f, n => evE cf e f n K.rt
  | .retN, K, _, n => K.rt (.non, true) n
  | .ife c a b, K, f, n => evT cf c f n fun t n1 => if t = true then evSs a K f n1 else evSs b K f n1
  | .whl c b, K, f, n => ∃ m, whGo (fun f n k => evT cf c f n k) (fun K f n => evSs b K f n) m K f n
  | .for ts it b, K, f, n => evI cf it f n fun items n1 => forGo (fun vs f n K => ∃ f', bindT f ts vs = some f' ∧ evSs b K f' n) items K f n1
  | .frz i s, K, f, n => match f[i]? with
    | some s0 => ∃ s1, frzS s0 = some s1 ∧ evS s K (f.set i s1) n
    | none => False
  | .asgS i e, K, f, n => evE cf e (view f) n fun x n1 => x.2 = true ∧ K.nx (f.set i (.sep x.1)) n1
  | .spoil i, K, f, n => match f[i]? with
    | some (.sep d) => d.spo = true ∧ K.nx (f.set i .no) n
    | _ => False
  | .spoilE i e, K, f, n => match f[i]? with
    | some (.sep _) => evE cf e (onlyF [i] 0 f) n fun x n1 => x.1.spo = true ∧ K.nx (f.set i .no) n1
    | _ => False
  | .appS i e, K, f, n => match f[i]? with
    | some (.sep (.lst xs)) => evE cf e (view f) n fun x n1 => D.muts xs = true ∧ x.2 = true ∧ xs.length < sizeLine ∧ K.nx (f.set i (.sep (.lst (xs ++ [x.1])))) n1
    | _ => False
  | .parS i j a b, K, f, n => evE cf a f n fun x n1 => evE cf b (view f) n1 fun y n2 => x.1.scal = true ∧ y.2 = true ∧ K.nx ((f.set i (.v x.1 true)).set j (.sep y.1)) n2
  | .lateP i k, K, f, n => match f[i]? with
    | some (.sep (.lst xs)) => ∃ ys, xs[k]? = some (.lst ys) ∧ ys.length < sizeLine ∧ k < 2 ^ 62 ∧ K.nx (f.set i .no) n
    | some (.sep (.tup xs)) => ∃ ys, xs[k]? = some (.lst ys) ∧ ys.length < sizeLine ∧ k < 2 ^ 62 ∧ K.nx (f.set i .no) n
    | _ => False
  | .lateF i j, K, f, n => match f[i]? with
    | some (.sep (.lst [.lst ps, .lst qs])) => i ≠ j ∧ j < f.length ∧ (∀ p ∈ ps, ∃ (s : Str) (ns : List Int), p = .tup [.str s, .lst (ns.map D.int)] ∧ ns.length + ps.length < sizeLine) ∧ D.muts [.lst ps, .lst qs] = true ∧
        ∀ x ys zs, ys.length ≤ qs.length + ps.length → K.nx ((f.set i (.sep (.lst (x :: .lst ys :: zs)))).set j .no) n
    | _ => False
  | .asgV i e, K, f, n => evE cf e (view f) n fun x n1 => x.2 = true ∧ K.nx (f.set i (.v x.1 true)) n1
  | .pop i, K, f, n => match f[i]? with
    | some (.l xs b) => xs ≠ [] ∧ K.nx (f.set i (.l xs.dropLast b)) n
    | _ => False
  | .setF i c0 fn e, K, f, n => match f[i]? with
    | some (.o c ns xs b) => c = c0 ∧ evE cf e f n fun x n1 => fn ∉ ns ∧ ns.length < 900 ∧ ns.length = xs.length ∧ K.nx (f.set i (.o c (ns ++ [fn]) (xs ++ [x.1]) (b && x.2))) n1
    | _ => False
  | .ext i o, K, f, n => match f[i]? with
    | some (.l xs b) => evO cf o f n fun x n1 => match x with
      | (.lst ys, c) => xs.length + ys.length ≤ sizeLine ∧ K.nx (f.set i (.l (xs ++ ys) (b && fls c ys))) n1
      | _ => False
    | _ => False
def evSs : XSs → DE → Fr → Nat → Prop
  | .nil, K, f, n => K.nx f n
  | .nev, _, _, _ => False
  | .cons s ss, K, f, n => evS s ⟨fun f n => evSs ss K f n, K.rt, K.ct⟩ f n
  | .ini c ns b, K, f, n => evSs b ⟨fun f' n' => ∃ xs fb, f'[0]? = some (.o c ns xs fb) ∧ ns.length = xs.length ∧ K.rt (.ins c xs, fb) n', fun _ _ => False, fun _ _ => False⟩ (.o c [] [] true :: f) n
end
end
/-- a function -/
structure FD where
  np : Nat
  ns : Nat
  body : XSs
def startF (ns : Nat) (ds : List D) : Fr := ds.map (fun d => .v d d.scal) ++ List.replicate (ns - ds.length) .no
/-- d: how deep calls may go -/
def evF (tb : List FD) : Nat → Nat → List D → Nat → KE → Prop
  | 0, _, _, _, _ => False
  | d + 1, g, ds, n, k => match tb[g]? with
    | some F => F.np = ds.length ∧ evSs (evF tb d) F.body ⟨fun _ n => k (.non, true) n, k, fun _ _ => False⟩ (startF F.ns ds) n
    | none => False

/-! ### the look -/
def plainN (x : Str) : Bool := !(x == "__debug__") && !(x == "__classdict__") && !(x == "__name__")
def visN (N : List Str) (sc : Scope) (i : Nat) (x : Str) : Bool := decide (N[i]? = some x) && (match sc.names.lookup x with | some .local => true | some .cell => true | some .free => true | _ => false) && plainN x
def locN (N : List Str) (sc : Scope) (i : Nat) (x : Str) : Bool := decide (N[i]? = some x) && (match sc.names.lookup x with | some .local => true | some .cell => true | _ => false) && plainN x
def locNL (N : List Str) (sc : Scope) (i : Nat) (x : Str) : Bool := decide (N[i]? = some x) && (match sc.names.lookup x with | some .local => true | _ => false) && plainN x
def glN (sc : Scope) (x : Str) : Bool := decide (sc.names.lookup x = some .globalImplicit) && plainN x
/-- a written dict of whole numbers -/
def dspOk : List (Int × Int) → List (Option Expr) → List Expr → Bool
  | [], [], [] => true
  | (k, v) :: r, some (.Constant (.int i) _ _) :: ks, .Constant (.int j) _ _ :: vs => decide (k = i) && decide (v = j) && dspOk r ks vs
  | _, _, _ => false
def Bi.name : Bi → Str
  | .len => "len" | .abs => "abs" | .int => "int" | .sum => "sum" | .all => "all" | .any => "any" | .max => "max" | .min => "min" | .tuple => "tuple" | .repr => "repr" | .minP => "min"
def opOk : Operator → Bool
  | .Add => true | .Sub => true | .Mult => true | .FloorDiv => true | .Mod => true | .Pow => true
  | _ => false
def tyOk (sc : Scope) : Ty → Expr → Bool
  | .t n, .Name x _ => decide (x = PySem.Str.ofString n) && glN sc x && (n == "int" || n == "bool" || n == "str" || n == "list" || n == "tuple" || n == "dict")
  | _, _ => false
def tysOk (sc : Scope) : List Ty → List Expr → Bool
  | [], [] => true
  | t :: ts, e :: es => tyOk sc t e && tysOk sc ts es
  | _, _ => false
def chkTs (N : List Str) (sc : Scope) : List Nat → List Expr → Bool
  | [], [] => true
  | t :: ts, .Name x _ :: es => locN N sc t x && chkTs N sc ts es
  | _, _ => false
/-- a target: one name, or a tuple of names -/
def chkTg (N : List Str) (sc : Scope) : List Nat → Expr → Bool
  | [t], e => match e with
    | .Name x _ => locN N sc t x
    | _ => false
  | ts, e => match e with
    | .Tuple es _ _ => chkTs N sc ts es
    | _ => false
def ownPairs (N : List Str) (own : List Nat) : List (Str × Nat) := own.map fun i => (N.getD i "", i)
def kwNames : List Keyword → Option (List Str)
  | [] => some []
  | ⟨some x, _, _⟩ :: r => (kwNames r).map (x :: ·)
  | ⟨none, _, _⟩ :: _ => none
/-- a call with keywords: of which function, the keywords, how many come ahead, the parameters' order -/
abbrev KwS := Nat × List Str × Nat × List Nat
/-- says that _law_spoilt is there -/
def spK : KwS := (1000000, [], 0, [])
/-- an own class: its name, its fields -/
def clsK (c : Str) (ns : List Str) : KwS := (1000001, c :: ns, 0, [])
/-- the function g is a class's method -/
def methK (g : Nat) (c m : Str) : KwS := (g, [c, m], 1000002, [])
/-- what a method may be asked of -/
def baseOk : Expr → Bool
  | .Name _ _ => true
  | .Call (.Name _ _) [] [] _ => false
  | .Call _ _ _ _ => true
  | _ => false
def isDot (x : Str) : Bool := x.cps.contains 46
/-- may the iterator be walked by a for whose body stores? -/
def fzI : XI → Bool
  | .over (.ex _) => true | .rng1 _ => true | .rng2 _ _ => true | .rng3 _ _ => true | .dctk _ => true | .enum (.ex _) => true | .zip (.ex _) (.ex _) => true
  | _ => false
def tgI : XI → List Nat → Bool
  | .enum _, ts => ts.length != 1
  | .zip _ _, ts => ts.length != 1
  | _, _ => true
section
variable (N : List Str) (fns : List Str) (kws : List KwS)
mutual
def chkE : XE → Scope → Expr → Bool
  | .var i, sc, e => match e with
    | .Name x _ => visN N sc i x
    | _ => false
  | .int i, _, e => match e with
    | .Constant (.int j) _ _ => decide (i = j)
    | _ => false
  | .str x, _, e => match e with
    | .Constant (.str y) _ _ => decide (x = y)
    | _ => false
  | .bl b, _, e => match e with
    | .Constant (.bool c) _ _ => decide (b = c)
    | _ => false
  | .non, _, e => match e with
    | .Constant .none _ _ => true
    | _ => false
  | .bin op a b, sc, e => match e with
    | .BinOp x op' y _ => decide (op = op') && opOk op && chkE a sc x && chkE b sc y
    | _ => false
  | .neg a, sc, e => match e with
    | .UnaryOp .USub x _ => chkE a sc x
    | _ => false
  | .cmp op a b, sc, e => match e with
    | .Compare x [op'] [y] _ => decide (op = op') && chkO a sc x && chkO b sc y
    | _ => false
  | .not a, sc, e => match e with
    | .UnaryOp .Not x _ => chkE a sc x
    | _ => false
  | .andV es, sc, e => match e with
    | .BoolOp .And xs _ => chkEs es sc xs
    | _ => false
  | .orV es, sc, e => match e with
    | .BoolOp .Or xs _ => chkEs es sc xs
    | _ => false
  | .ife c a b, sc, e => match e with
    | .IfExp t x y _ => chkT c sc t && chkE a sc x && chkE b sc y
    | _ => false
  | .idx a i, sc, e => match e with
    | .Subscript x y _ => chkO a sc x && chkE i sc y
    | _ => false
  | .nl l, sc, e => chkL l sc e
  | .tup es, sc, e => match e with
    | .Tuple xs _ _ => chkEs es sc xs
    | _ => false
  | .call g es, sc, e => match e with
    | .Call (.Name x _) xs [] _ => decide (fns[g]? = some x) && glN sc x && !isDot x && chkEs es sc xs
    | _ => false
  | .kcall g es ks kes ord, sc, e => match e with
    | .Call (.Name x _) xs kwds _ => decide (fns[g]? = some x) && glN sc x && !isDot x && chkEs es sc xs && decide (kwNames kwds = some ks) && chkEs kes sc (kwds.map (·.value)) && !kwds.isEmpty && decide ((g, ks, es.len, ord) ∈ kws)
    | _ => false
  | .draw s m, sc, e => match e with
    | .Call (.Name x _) [a, b] [] _ => decide (x = "_law_draw") && glN sc x && chkE s sc a && chkE m sc b
    | _ => false
  | .bi b a, sc, e => match e with
    | .Call (.Name x _) [y] [] _ => decide (x = b.name) && glN sc x && chkO a sc y
    | _ => false
  | .bi2 b a c, sc, e => match e with
    | .Call (.Name x _) [y, z] [] _ => decide (x = b.name) && glN sc x && chkE a sc y && chkE c sc z && (match b with | .max => true | .min => true | _ => false)
    | _ => false
  | .isi a ts one, sc, e => match e with
    | .Call (.Name x _) [y, t] [] _ => decide (x = "isinstance") && glN sc x && chkE a sc y && (match one, t with
      | true, t => tysOk sc ts [t]
      | false, .Tuple es _ _ => tysOk sc ts es && !ts.isEmpty && decide (ts.length ≤ 100)
      | _, _ => false)
    | _ => false
  | .sc a, sc, e => chkE a sc e
  | .sls a lo hi, sc, e => match e with
    | .Subscript x (.Slice l h none _) _ => chkO a sc x && chkP lo sc l && chkP hi sc h
    | _ => false
  | .rvs a, sc, e => match e with
    | .Subscript x (.Slice none none (some (.UnaryOp .USub (.Constant (.int j) _ _) _)) _) _ => decide (j = 1) && chkO a sc x
    | _ => false
  | .emp, _, e => match e with
    | .Dict [] [] _ => true
    | _ => false
  | .dctV l, sc, e => match e with
    | .Call (.Name x _) [y] [] _ => decide (x = "dict") && glN sc x && chkL l sc y
    | _ => false
  | .catT a b, sc, e => match e with
    | .BinOp x .Add y _ => chkE a sc x && chkE b sc y
    | _ => false
  | .att a c i, sc, e => match e with
    | .Attribute x f _ => chkE a sc x && kws.any (fun q => decide (q = clsK c (q.2.1.drop 1)) && decide ((q.2.1.drop 1)[i]? = some f)) && (match x with | .Name _ _ => true | _ => false)
    | _ => false
  | .meth g c m a es, sc, e => match e with
    | .Call (.Attribute x m2 ap) xs [] cp => baseOk x && (ap.endLine == cp.line) && decide (xs.length < 30) && chkE a sc x && decide (m = m2) && decide (methK g c m ∈ kws) && chkEs es sc xs && kws.any (fun q => decide (q = clsK c (q.2.1.drop 1)) && !(q.2.1.drop 1).contains m)
    | _ => false
  | .tseg g, sc, e => match e with
    | .Tuple xs _ _ => chkSg g sc xs
    | _ => false
  | .rdw j m, sc, e => match e with
    | .Call (.Name g _) [.Call (.Name g2 _) [.Name x _] [] _, .Constant (.int i) _ _] [] _ => decide (g = "_law_draw") && decide (g2 = "_law_stream") && glN sc g && glN sc g2 && visN N sc j x && decide (i = (m : Int))
    | _ => false
  | .dsp kvs, _, e => match e with
    | .Dict ks vs _ => dspOk kvs ks vs && decide (kvs.Pairwise fun a b => a.1 ≠ b.1) && (!kvs.isEmpty && decide (kvs.length ≤ 15))
    | _ => false
  | .ixo a i, sc, e => match e with
    | .Call (.Attribute y m2 ap) [v] [] cp => decide (m2 = "index") && (match y with | .Name _ _ => true | _ => false) && (ap.endLine == cp.line) && (chkO a sc y && chkE i sc v)
    | _ => false
  | .isc a c, sc, e => match e with
    | .Call (.Name x _) [y, .Name z _] [] _ => decide (x = "isinstance") && glN sc x && decide (z = c) && glN sc z && chkE a sc y && kws.any (fun q => decide (q = clsK c (q.2.1.drop 1)))
    | _ => false
def chkL : XL → Scope → Expr → Bool
  | .lit es, sc, e => match e with
    | .List xs _ => chkEs es sc xs
    | _ => false
  | .cat a b, sc, e => match e with
    | .BinOp x .Add y _ => chkO a sc x && chkO b sc y
    | _ => false
  | .rep a m, sc, e => match e with
    | .BinOp x .Mult y _ => chkO a sc x && chkE m sc y
    | _ => false
  | .sl a lo hi, sc, e => match e with
    | .Subscript x (.Slice l h none _) _ => chkO a sc x && chkP lo sc l && chkP hi sc h
    | _ => false
  | .rev a, sc, e => match e with
    | .Subscript x (.Slice none none (some (.UnaryOp .USub (.Constant (.int j) _ _) _)) _) _ => decide (j = 1) && chkO a sc x
    | _ => false
  | .of a, sc, e => match e with
    | .Call (.Name x _) [y] [] _ => decide (x = "list") && glN sc x && chkO a sc y
    | _ => false
  | .comp el ts own it c, sc, e => match e with
    | .ListComp elt [⟨tg, iter, ifs, isA⟩] scope _ => decide (isA = 0) && blkC N sc scope (ownPairs N own) && chkTg N scope ts tg && chkI it sc iter && chkE el (relS scope sc) elt && chkTs0 c (relS scope sc) ifs && ts.all (fun i => decide (i ∈ own)) && tgI it ts && decide (ifs.length ≤ 1)
    | _ => false
  | .seg g, sc, e => match e with
    | .List xs _ => chkSg g sc xs
    | _ => false
  | .srt a, sc, e => match e with
    | .Call (.Name x _) [y] [] _ => decide (x = "sorted") && glN sc x && chkO a sc y
    | _ => false
  | .rngL1 a, sc, e => match e with
    | .Call (.Name x _) [.Call (.Name z _) [y] [] _] [] _ => decide (x = "list") && glN sc x && decide (z = "range") && glN sc z && chkE a sc y
    | _ => false
  | .rngL2 a b, sc, e => match e with
    | .Call (.Name x _) [.Call (.Name z _) [y, y2] [] _] [] _ => decide (x = "list") && glN sc x && decide (z = "range") && glN sc z && chkE a sc y && chkE b sc y2
    | _ => false
def chkSg : XSg → Scope → List Expr → Bool
  | .nil, _, xs => match xs with
    | [] => true
    | _ :: _ => false
  | .one e r, sc, xs => match xs with
    | x :: xs => chkE e sc x && chkSg r sc xs
    | [] => false
  | .star o r, sc, xs => match xs with
    | .Starred x _ :: xs => chkO o sc x && chkSg r sc xs
    | _ => false
def chkO : XO → Scope → Expr → Bool
  | .ex e, sc, x => chkE e sc x
  | .own i, sc, e => match e with
    | .Name x _ => visN N sc i x
    | _ => false
def chkI : XI → Scope → Expr → Bool
  | .over o, sc, e => chkO o sc e
  | .rng1 a, sc, e => match e with
    | .Call (.Name x _) [y] [] _ => decide (x = "range") && glN sc x && chkE a sc y
    | _ => false
  | .rng2 a b, sc, e => match e with
    | .Call (.Name x _) [y, z] [] _ => decide (x = "range") && glN sc x && chkE a sc y && chkE b sc z
    | _ => false
  | .rng3 a b, sc, e => match e with
    | .Call (.Name x _) [y, z, .UnaryOp .USub (.Constant (.int j) _ _) _] [] _ => decide (x = "range") && glN sc x && chkE a sc y && chkE b sc z && decide (j = 1)
    | _ => false
  | .dctk l, sc, e => match e with
    | .Call (.Name x _) [y] [] _ => decide (x = "dict") && glN sc x && chkL l sc y
    | _ => false
  | .enum o, sc, e => match e with
    | .Call (.Name x _) [y] [] _ => decide (x = "enumerate") && glN sc x && chkO o sc y
    | _ => false
  | .zip a b, sc, e => match e with
    | .Call (.Name x _) [y, z] [] _ => decide (x = "zip") && glN sc x && chkO a sc y && chkO b sc z
    | _ => false
def chkP : XP → Scope → Option Expr → Bool
  | .no, _, o => match o with
    | none => true
    | some _ => false
  | .yes e, sc, o => match o with
    | some x => chkE e sc x
    | none => false
def chkEs : XEs → Scope → List Expr → Bool
  | .nil, _, xs => match xs with
    | [] => true
    | _ :: _ => false
  | .cons e es, sc, xs => match xs with
    | x :: xs => chkE e sc x && chkEs es sc xs
    | [] => false
def chkT : XT → Scope → Expr → Bool
  | .tv e, sc, x => chkE e sc x && (match x with
    | .UnaryOp .Not _ _ => false | .BoolOp _ _ _ => false | .IfExp _ _ _ _ => false | .Compare _ _ _ _ => false
    | _ => true)
  | .tc op a b, sc, e => match e with
    | .Compare x [op'] [y] _ => decide (op = op') && chkO a sc x && chkO b sc y
    | _ => false
  | .tn t, sc, e => match e with
    | .UnaryOp .Not x _ => chkT t sc x
    | _ => false
  | .tch op op' a b c, sc, e => match e with
    | .Compare x [p, q] [y, z] _ => decide (op = p) && decide (op' = q) && decide (op = .LtE) && decide (op' = .Lt) && chkO a sc x && chkO b sc y && chkO c sc z
    | _ => false
  | .ta ts, sc, e => match e with
    | .BoolOp .And xs _ => chkTs0 ts sc xs && !xs.isEmpty
    | _ => false
  | .to ts, sc, e => match e with
    | .BoolOp .Or xs _ => chkTs0 ts sc xs && !xs.isEmpty
    | _ => false
def chkTs0 : XTs → Scope → List Expr → Bool
  | .nil, _, xs => match xs with
    | [] => true
    | _ :: _ => false
  | .cons t ts, sc, xs => match xs with
    | x :: xs => chkT t sc x && chkTs0 ts sc xs
    | [] => false
end
def isComp : Expr → Bool
  | .ListComp .. => true | .SetComp .. => true | .DictComp .. => true
  | _ => false
def chkR : XR → Scope → Expr → Bool
  | .e e, sc, x => chkE N fns kws e sc x
  | .l l, sc, x => chkL N fns kws l sc x
  | .k, _, x => match x with
    | .Dict [] [] _ => true
    | _ => false
  | .kt, _, x => match x with
    | .Dict [] [] _ => true
    | _ => false
/-- does y = [..] store in the comprehension's own frame? -/
def swapB (sc : Scope) (y : Str) (py : Pos) (line : Nat) : Expr → Bool
  | .ListComp _ _ scope pos => decide (sc.names.lookup y = some .local) && (py.line == pos.line) && !(scope.names.any fun (n, k) => n == y && (k == .local || k == .cell))
  | _ => false
def chkRs : List XR → Scope → List Expr → Bool
  | [], _, [] => true
  | r :: rs, sc, x :: xs => chkR N fns kws r sc x && chkRs rs sc xs
  | _, _, _ => false
/-- names that are plain locals -/
def chkTsL (N : List Str) (sc : Scope) : List Nat → List Expr → Bool
  | [], [] => true
  | t :: ts, .Name x _ :: es => locNL N sc t x && chkTsL N sc ts es
  | _, _ => false
/-- a name that is no plain local -/
def cellT (sc : Scope) : Expr → Bool
  | .Name x _ => !decide (sc.names.lookup x = some .local)
  | _ => false
mutual
def chkS : XS → Scope → Stmt → Bool
  | .asg i r, sc, s => match s with
    | .Assign [.Name x px] v p => locN N sc i x && chkR N fns kws r sc v && (match r with | .e _ => !swapB sc x px p.line v | _ => true)
    | _ => false
  | .par2 i j r q, sc, s => match s with
    | .Assign [.Tuple [.Name x px, .Name y py] _ _] (.Tuple [a, b] _ _) _ => locNL N sc i x && locNL N sc j y && decide (i ≠ j) && decide (x ≠ y) && chkR N fns kws r sc a && chkR N fns kws q sc b && (px.line == py.line)
        && !([a, b].all (foldedForSure 8)) && !([a, b].all (constantsAlone 8))
    | _ => false
  | .par ts rs, sc, s => match s with
    | .Assign [.Tuple es _ _] (.Tuple vs _ _) _ => chkTs N sc ts es && chkRs N fns kws rs sc vs && decide ts.Nodup && decide (ts.length = rs.length) && decide (rs.length ≤ 10) && (if es.any (cellT sc) then true else if es.length == 3 then
        (match ts, es, vs with
          | [i, j, l], [.Name x px, .Name y py, .Name z pz], [a, b, c] => locNL N sc i x && locNL N sc j y && locNL N sc l z && decide ([x, y, z].Nodup) && (px.line == py.line) && (px.line == pz.line) && !([a, b, c].all (foldedForSure 8)) && !([a, b, c].all (constantsAlone 8))
          | _, _, _ => false)
        else !(es.length == 2))
    | _ => false
  | .unp ts e, sc, s => match s with
    | .Assign [.Tuple es k p] v _ => chkTs N sc ts es && chkE N fns kws e sc v && (match v with | .Tuple vs _ _ => !(es.length == 2 || es.length == 3) || (vs.all (foldedForSure 8) && es.all (fun e => match e with | .Name _ _ => true | _ => false)) | _ => true)
    | _ => false
  | .setL i ix e, sc, s => match s with
    | .Assign [.Subscript (.Name x _) y _] v _ => visN N sc i x && chkE N fns kws ix sc y && chkE N fns kws e sc v && !isComp v
    | _ => false
  | .setK i ix e, sc, s => match s with
    | .Assign [.Subscript (.Name x _) y _] v _ => visN N sc i x && chkE N fns kws ix sc y && chkE N fns kws e sc v && !isComp v
    | _ => false
  | .appP i j e, sc, s => match s with
    | .Expr (.Call (.Attribute (.Name x _) m apos) [.Call (.Attribute (.Name y _) m2 bpos) [v] [] cq] [] cpos) _ => decide (m = "append") && visN N sc i x && (decide (m2 = "pop") && visN N sc j y && chkE N fns kws e sc v && (bpos.endLine == cq.line)) && (decide (i ≠ j) && (apos.endLine == cpos.line))
    | _ => false
  | .app i e, sc, s => match s with
    | .Expr (.Call (.Attribute (.Name x _) m apos) [v] [] cpos) _ => decide (m = "append") && visN N sc i x && chkE N fns kws e sc v && (apos.endLine == cpos.line)
    | _ => false
  | .expr e, sc, s => match s with
    | .Expr v _ => chkE N fns kws e sc v && !isComp v
    | _ => false
  | .ret e, sc, s => match s with
    | .Return (some v) _ => chkE N fns kws e sc v
    | _ => false
  | .retN, _, s => match s with
    | .Return none _ => true
    | _ => false
  | .ife c a b, sc, s => match s with
    | .If t x y _ => chkT N fns kws c sc t && chkSs a sc x && chkSs b sc y
    | _ => false
  | .whl c b, sc, s => match s with
    | .While t x [] _ => chkT N fns kws c sc t && chkSs b sc x
    | _ => false
  | .for ts it b, sc, s => match s with
    | .For tg iter x [] _ => chkTg N sc ts tg && chkI N fns kws it sc iter && fzI it && tgI it ts && chkSs b sc x
    | _ => false
  | .frz _ t, sc, s => chkS t sc s
  | .asgS i e, sc, s => match s with
    | .Assign [.Name x px] v p => locN N sc i x && chkE N fns kws e sc v && !swapB sc x px p.line v
    | _ => false
  | .asgV i e, sc, s => match s with
    | .Assign [.Name x px] v p => locN N sc i x && chkE N fns kws e sc v && !swapB sc x px p.line v
    | _ => false
  | .spoil i, sc, s => match s with
    | .Expr (.Call (.Name g _) [.Name x _] [] _) _ => decide (g = "_law_spoilt") && glN sc g && visN N sc i x && decide (spK ∈ kws)
    | _ => false
  | .spoilE i e, sc, s => match s with
    | .Expr (.Call (.Name g _) [v] [] _) _ => decide (g = "_law_spoilt") && glN sc g && chkE N fns kws e sc v && decide (spK ∈ kws)
    | _ => false
  | .appS i e, sc, s => match s with
    | .Expr (.Call (.Attribute (.Name x _) m apos) [v] [] cpos) _ => decide (m = "append") && visN N sc i x && chkE N fns kws e sc v && (apos.endLine == cpos.line)
    | _ => false
  | .parS i j a b, sc, s => match s with
    | .Assign [.Tuple [.Name x px, .Name y py] _ _] (.Tuple [e, g] _ _) _ => locNL N sc i x && locNL N sc j y && decide (i ≠ j) && decide (x ≠ y) && chkE N fns kws a sc e && chkE N fns kws b sc g && (px.line == py.line)
        && !([e, g].all (foldedForSure 8)) && !([e, g].all (constantsAlone 8))
    | _ => false
  | .lateP i k, sc, s => match s with
    | .Expr (.Call (.Attribute (.Subscript (.Name x _) (.Constant (.int j) _ _) _) m apos) [.Constant (.str _) _ _] [] cpos) _ => decide (m = "append") && visN N sc i x && decide (j = (k : Int)) && (apos.endLine == cpos.line)
    | _ => false
  | .lateF i j, sc, s => match s with
    | .For (.Name y _) (.Subscript (.Name x _) (.Constant (.int t) _ _) _) [.Expr (.Call (.Attribute (.Subscript (.Name y2 _) (.Constant (.int t2) _ _) _) m apos) [.Constant (.int t3) _ _] [] cpos) _] [] _ =>
        decide (m = "append") && decide (t = 0) && decide (t2 = 1) && decide (t3 = 2) && decide (y = y2) && visN N sc i x && visN N sc j y && locN N sc j y && (apos.endLine == cpos.line)
    | _ => false
  | .pop i, sc, s => match s with
    | .Expr (.Call (.Attribute (.Name x _) m apos) [] [] cpos) _ => decide (m = "pop") && visN N sc i x && (apos.endLine == cpos.line)
    | _ => false
  | .setF i c fn e, sc, s => match s with
    | .Assign [.Attribute (.Name x px) g ap] v p => visN N sc i x && decide (fn = g) && chkE N fns kws e sc v && kws.any (fun q => decide (q = clsK c (q.2.1.drop 1)) && (q.2.1.drop 1).contains fn) && (match v with | .Name _ _ => true | .Call _ _ _ _ => true | _ => false)
    | _ => false
  | .ext i o, sc, s => match s with
    | .Expr (.Call (.Attribute (.Name x _) m apos) [v] [] cpos) _ => decide (m = "extend") && visN N sc i x && chkO N fns kws o sc v && (apos.endLine == cpos.line)
    | _ => false
def chkSs : XSs → Scope → List Stmt → Bool
  | .nil, _, ss => match ss with
    | [] => true
    | _ :: _ => false
  | .nev, _, _ => true
  | .ini _ _ _, _, _ => false
  | .cons t ts, sc, ss => match ss with
    | s :: ss => chkS t sc s && chkSs ts sc ss
    | [] => false
end
end
end DL

set_option maxHeartbeats 4000000
/-! DL4: readings of the layer's judgements by the evaluator; expressions. -/
namespace DL
open PySem PySem.Spec PyProof.Rows L2

theorem _root_.L2.PE.imp {X : Cx} {e : Expr} {t t' : TE} (h : PE X e t) (i : ∀ σ H Q, t' σ H Q → t σ H Q) : PE X e t' := ⟨fun pins s σ H Q I w => h.run pins s σ H Q I (i σ H Q w)⟩
theorem _root_.L2.PT.imp {X : Cx} {e : Expr} {t t' : TT} (h : PT X e t) (i : ∀ σ H Q, t' σ H Q → t σ H Q) : PT X e t' := ⟨fun pins s σ H Q I w => h.run pins s σ H Q I (i σ H Q w)⟩
theorem _root_.L2.PW.imp {X : Cx} {e : Expr} {t t' : TT} (h : PW X e t) (i : ∀ σ H Q, t' σ H Q → t σ H Q) : PW X e t' := ⟨fun wh pins s σ H Q I w => h.run wh pins s σ H Q I (i σ H Q w)⟩
theorem _root_.L2.PA.imp {X : Cx} {e : List Expr} {t t' : TA} (h : PA X e t) (i : ∀ σ H Q, t' σ H Q → t σ H Q) : PA X e t' := ⟨fun pos pins s σ H Q I w => h.run pos pins s σ H Q I (i σ H Q w)⟩
theorem _root_.L2.PO.imp {X : Cx} {e : Option Expr} {t t' : TO} (h : PO X e t) (i : ∀ σ H Q, t' σ H Q → t σ H Q) : PO X e t' := ⟨fun pins s σ H Q I w => h.run pins s σ H Q I (i σ H Q w)⟩
theorem _root_.L2.PI.imp {X : Cx} {tg e : Expr} {t t' : TI} (h : PI X tg e t) (i : ∀ σ H Q, t' σ H Q → t σ H Q) : PI X tg e t' := ⟨fun pins s σ H Q I w => h.run pins s σ H Q I (i σ H Q w)⟩
theorem _root_.L2.PS.imp {X : Cx} {e : Stmt} {t t' : TS} (h : PS X e t) (i : ∀ D σ H, t' D σ H → t D σ H) : PS X e t' := ⟨fun pins s σ H D I w => h.run pins s σ H D I (i D σ H w)⟩
theorem _root_.L2.PSs.imp {X : Cx} {e : List Stmt} {t t' : TS} (h : PSs X e t) (i : ∀ D σ H, t' D σ H → t D σ H) : PSs X e t' := ⟨fun pins s σ H D I w => h.run pins s σ H D I (i D σ H w)⟩

abbrev Ev (α : Type) := Fr → Nat → (α → Nat → Prop) → Prop
/-- from a run of the evaluator to a reading: rel says what the datum is of the value -/
def TR {α β : Type} (cl : Cls0) (rel : Pt → Hp → Hp → Hp → Hp → β → α → Prop) (ev : Ev α) : L2.St → Hp → (β → Hp → Prop) → Prop := fun σ H Q =>
  ∃ (P : Pt) (G0 H0 : Hp) (W : Nat → Addr → Prop) (n : Nat) (f : Fr) (G : Hp) (K : α → Nat → Prop), P.cl = cl ∧ SR P G0 H0 W n σ f G H ∧ ev f n K ∧
    ∀ r n', K r n' → ∀ v G' H', SR P G0 H0 W n' σ f G' H' → Le P G H G' H' → rel P H H0 G' H' v r → Q v H'
/-- a value -/
def relE (P : Pt) (_ H0 G' _ : Hp) (v : V) (r : DB) : Prop := RdD P (rg r.2 G' H0) v r.1
/-- an operand: a list or a dict may be a name's own -/
def relO (P : Pt) (_ H0 G' H' : Hp) (v : V) (r : DB) : Prop := match r.1 with
  | .lst xs => ∃ p vs, v = .ref p ∧ p ≠ P.s ∧ p ≠ P.l ∧ H' p = some (.lst vs) ∧ RdL P (rg r.2 G' H0) vs xs
  | .dic ks xs => ∃ p vs, v = .ref p ∧ H' p = some (.dK (ks.zip vs)) ∧ ks.length = vs.length ∧ RdL P (rg r.2 G' H0) vs xs
  | .dit ks xs => ∃ p vs, v = .ref p ∧ H' p = some (.dT (ks.zip vs)) ∧ ks.length = vs.length ∧ RdL P (rg r.2 G' H0) vs xs
  | d => RdD P (rg r.2 G' H0) v d
/-- a new list that is not frozen -/
def relL (P : Pt) (H H0 G' H' : Hp) (v : V) (r : List D × Bool) : Prop := ∃ p vs, v = .ref p ∧ H p = none ∧ G' p = none ∧ H' p = some (.lst vs) ∧ RdL P (rg r.2 G' H0) vs r.1
def relB (_ : Pt) (_ _ _ _ : Hp) (v : Bool) (r : Bool) : Prop := v = r
def relP (_ : Pt) (_ _ _ _ : Hp) (v : Option Int) (r : Option Int) : Prop := v = r
def relA (P : Pt) (_ H0 G' _ : Hp) (vs : List V) (r : List D × Bool) : Prop := RdL P (rg r.2 G' H0) vs r.1
abbrev tE (cl : Cls0) (ev : Ev DB) : TE := TR cl relE ev
abbrev tO (cl : Cls0) (ev : Ev DB) : TE := TR cl relO ev
abbrev tT (cl : Cls0) (ev : Ev Bool) : TT := TR cl relB ev
abbrev ev2 (e : Fr → Nat → (List D → Bool → Nat → Prop) → Prop) : Ev (List D × Bool) := fun f n k => e f n fun xs b n' => k (xs, b) n'
abbrev tL (cl : Cls0) (e : Fr → Nat → (List D → Bool → Nat → Prop) → Prop) : TE := TR cl relL (ev2 e)
abbrev tA (cl : Cls0) (e : Fr → Nat → (List D → Bool → Nat → Prop) → Prop) : TA := TR cl relA (ev2 e)
abbrev tP (cl : Cls0) (ev : Ev (Option Int)) : TO := TR cl relP ev

section
variable {P : Pt} {G0 H0 G H G' H' H1 H2 : Hp} {W : Nat → Addr → Prop} {n n' : Nat} {σ : L2.St} {f : Fr}
theorem SR.gne (S : SR P G0 H0 W n σ f G H) {p : Addr} {o : HO} (e : G p = some o) : p ≠ P.s ∧ p ≠ P.l :=
  ⟨fun z => (by rw [z, S.bs.gs] at e; cases e), fun z => (by rw [z, S.bs.gl] at e; cases e)⟩
theorem relO_of {v : V} {r : DB} (S : SR P G0 H0 W n σ f G' H') (h : relE P H1 H0 G' H' v r) : relO P H1 H0 G' H' v r := by
  obtain ⟨d, b⟩ := r
  have h' : RdD P (rg b G' H0) v d := h
  unfold relO
  cases h' with
  | lst e r => exact ⟨_, _, rfl, (S.gne (rg_sub _ _ e)).1, (S.gne (rg_sub _ _ e)).2, S.bs.gh _ _ (rg_sub _ _ e), r⟩
  | dic e l r => exact ⟨_, _, rfl, S.bs.gh _ _ (rg_sub _ _ e), l, r⟩
  | dit e l r => exact ⟨_, _, rfl, S.bs.gh _ _ (rg_sub _ _ e), l, r⟩
  | tup e r => exact .tup e r
  | ins c e l r => exact .ins c e l r
  | non => exact .non
  | bl b => exact .bl b
  | int i => exact .int i
  | str x => exact .str x
  | strm => exact .strm
theorem relE_mono {G2 H3 : Hp} {v : V} {r : DB} (g : Sub G' G2) (h : relE P H1 H0 G' H' v r) : relE P H2 H0 G2 H3 v r := RdD.mono (rg_mono g) h
theorem relO_mono {G2 H2' : Hp} {v : V} {r : DB} (S : SR P G0 H0 W n σ f G' H') (L : Le P G' H' G2 H2') (h : relO P H1 H0 G' H' v r) : relO P H2 H0 G2 H2' v r := by
  obtain ⟨d, b⟩ := r
  have key : ∀ {p : Addr} {u : HO}, H' p = some u → (∀ ps, u ≠ .lst ps) → H2' p = some u := fun {p u} e h1 => by
    obtain ⟨_, ns, a1, b1, c1, e1, e2, _⟩ := S.bs.st
    exact L.h p u e (fun z => h1 _ (by rw [z, e1] at e; exact (Option.some.inj e).symm)) (fun z => h1 _ (by rw [z, e2] at e; exact (Option.some.inj e).symm))
  cases d with
  | lst xs =>
    obtain ⟨p, vs, e, n1, n2, e2, r⟩ := (show ∃ p vs, v = .ref p ∧ p ≠ P.s ∧ p ≠ P.l ∧ H' p = some (.lst vs) ∧ RdL P (rg b G' H0) vs xs from h)
    exact ⟨p, vs, e, n1, n2, L.h p _ e2 n1 n2, r.mono (rg_mono L.g)⟩
  | dic ks xs =>
    obtain ⟨p, vs, e, e2, l, r⟩ := (show ∃ p vs, v = .ref p ∧ H' p = some (.dK (ks.zip vs)) ∧ ks.length = vs.length ∧ RdL P (rg b G' H0) vs xs from h)
    exact ⟨p, vs, e, key e2 (fun _ z => by cases z), l, r.mono (rg_mono L.g)⟩
  | dit ks xs =>
    obtain ⟨p, vs, e, e2, l, r⟩ := (show ∃ p vs, v = .ref p ∧ H' p = some (.dT (ks.zip vs)) ∧ ks.length = vs.length ∧ RdL P (rg b G' H0) vs xs from h)
    exact ⟨p, vs, e, key e2 (fun _ z => by cases z), l, r.mono (rg_mono L.g)⟩
  | _ => exact RdD.mono (rg_mono L.g) (show RdD P (rg b G' H0) v _ from h)
theorem Le.none (L : Le P G H G' H') (st : Stm n P H) (st' : Stm n' P H') {p : Addr} (h : H' p = none) : H p = none := by
  cases e : H p with
  | none => rfl
  | some o =>
    obtain ⟨_, ns, a1, b1, c1, e1, e2, _⟩ := st'
    have z1 : p ≠ P.s := fun z => by rw [z, e1] at h; cases h
    have z2 : p ≠ P.l := fun z => by rw [z, e2] at h; cases h
    rw [L.h p o e z1 z2] at h; cases h
/-- a relation that a pure step keeps -/
structure Kept {α β : Type} (rel : Pt → Hp → Hp → Hp → Hp → β → α → Prop) : Prop where
  step : ∀ {P G0 H0 W n n0 σ f G H G1 H1 n2 G2 H2 v r}, Stm n0 P H → SR P G0 H0 W n σ f G1 H1 → Le P G H G1 H1 → Le P G1 H1 G2 H2 → Stm n2 P H2 → rel P H H0 G1 H1 v r → rel P H H0 G2 H2 v r
  back : ∀ {P n n1 H0 G H G1 H1 G2 H2 v r}, Le P G H G1 H1 → Stm n P H → Stm n1 P H1 → rel P H1 H0 G2 H2 v r → rel P H H0 G2 H2 v r
theorem kE : Kept relE := ⟨fun _ _ _ L _ h => relE_mono L.g h, fun _ _ _ h => h⟩
theorem kO : Kept relO := ⟨fun _ S _ L _ h => relO_mono S L h, fun _ _ _ h => h⟩
theorem kB : Kept relB := ⟨fun _ _ _ _ _ h => h, fun _ _ _ h => h⟩
theorem kP : Kept relP := ⟨fun _ _ _ _ _ h => h, fun _ _ _ h => h⟩
theorem kA : Kept relA := ⟨fun _ _ _ L _ h => RdL.mono (rg_mono L.g) h, fun _ _ _ h => h⟩
theorem kL : Kept relL := by
  refine ⟨fun {P G0 H0 W n n0 σ f G H G1 H1 n2 G2 H2 v r} s0 S L L2 st h => ?_, fun {P n n1 H0 G H G1 H1 G2 H2 v r} L s1 s2 h => ?_⟩
  · obtain ⟨p, vs, e, hn, hg, hh, r⟩ := h
    obtain ⟨_, ns, a1, b1, c1, e1, e2, _⟩ := s0
    have z1 : p ≠ P.s := fun z => by rw [z, e1] at hn; cases hn
    have z2 : p ≠ P.l := fun z => by rw [z, e2] at hn; cases hn
    exact ⟨p, vs, e, hn, (L2.gx p (by rw [hh]; simp)).elim (fun z => z.trans hg) fun ⟨ys, z⟩ => (by rw [hh] at z; cases z), L2.h p _ hh z1 z2, r.mono (rg_mono L2.g)⟩
  · obtain ⟨p, vs, e, hn, hg, hh, r⟩ := h
    exact ⟨p, vs, e, L.none s1 s2 hn, hg, hh, r⟩
end

section
variable {α β γ δ : Type} {cl : Cls0} {rel1 : Pt → Hp → Hp → Hp → Hp → β → α → Prop} {rel2 : Pt → Hp → Hp → Hp → Hp → δ → γ → Prop} {ev : Ev α} {ew : Ev γ}
variable {P : Pt} {G0 H0 G H : Hp} {W : Nat → Addr → Prop} {n : Nat} {σ : L2.St} {f : Fr}
/-- one evaluation -/
theorem TR.one {K : α → Nat → Prop} {Q : β → Hp → Prop} (hc : P.cl = cl) (S : SR P G0 H0 W n σ f G H) (e : ev f n K)
    (h : ∀ x n1, K x n1 → ∀ v G1 H1, SR P G0 H0 W n1 σ f G1 H1 → Le P G H G1 H1 → rel1 P H H0 G1 H1 v x → Q v H1) : TR cl rel1 ev σ H Q :=
  ⟨P, G0, H0, W, n, f, G, K, hc, S, e, h⟩
/-- two, one behind the other -/
theorem TR.two {K : α → γ → Nat → Prop} {Q : β → δ → Hp → Prop} (k1 : Kept rel1) (k2 : Kept rel2) (hc : P.cl = cl) (S : SR P G0 H0 W n σ f G H) (e : ev f n fun x n1 => ew f n1 fun y n2 => K x y n2)
    (h : ∀ x y n2, K x y n2 → ∀ v u G2 H2, SR P G0 H0 W n2 σ f G2 H2 → Le P G H G2 H2 → rel1 P H H0 G2 H2 v x → rel2 P H H0 G2 H2 u y → Q v u H2) :
    TR cl rel1 ev σ H fun v H1 => TR cl rel2 ew σ H1 fun u H2 => Q v u H2 := by
  refine ⟨P, G0, H0, W, n, f, G, _, hc, S, e, fun x n1 hx v G1 H1 S1 L1 r1 => ?_⟩
  refine ⟨P, G0, H0, W, n1, f, G1, _, hc, S1, hx, fun y n2 hy u G2 H2 S2 L2 r2 => ?_⟩
  exact h x y n2 hy v u G2 H2 S2 (Le.trans S.bs S1.bs.st L1 L2) (k1.step S.bs.st S1 L1 L2 S2.bs.st r1) (k2.back L1 S.bs.st S1.bs.st r2)
end
end DL

set_option maxHeartbeats 4000000
/-! DLW: a dict beside a list: never equal. -/
namespace DL
open PySem PySem.Spec PyProof.Rows L2
section
variable {X : Cx}
theorem dne_list {l b : Addr} {items : Array Value} {n : Nat} {dd : Option Addr} {sl : Array (Option Value)} {o2 : Obj} (h2 : o2.cls = .type "dict") :
    Meets (Builtin.«list.__ne__» ⟨[.ref l, .ref b], []⟩) (fun _ R s => s.heap.get? l = some { cls := .type "list", dict := dd, data := .seq items n, slots := sl } ∧ s.heap.get? b = some o2 ∧ R (.ok (.ret .notImplemented)) s) :=
  .of_wp fun prog w A R s h => by
    obtain ⟨hp, g, d, tk, os⟩ := s
    obtain ⟨hl, hb, h⟩ := h
    obtain ⟨c2, d2, da2, s2⟩ := o2
    simp only at h2
    subst h2
    have f1 := PySem.F.sub_dict_list
    wp_walk using SeqAt.wpAny_loadPart' hl, SeqAt.wpAny_loadPart' hb
    exact ⟨_, rfl, h⟩
def rNeDl (K : PySem.W.Frag) : R2 := fun x y H Q => ∃ a b ks ys, x = .ref a ∧ y = .ref b ∧ H a = some (.dK ks) ∧ SqL K H b ys ∧ Q (.bl true) H
theorem op_neDl (hu : X.A.units + 1 < cLine) : OpR X (compareOp .NotEq) (rNeDl X.K) := by
  intro pins s σ H x y v u Q I rx ry h
  obtain ⟨a, b, ks, ys, rfl, rfl, ea, eb, q⟩ := h
  obtain rfl : v = Value.ref a := rx
  obtain rfl : u = Value.ref b := ry
  obtain ⟨_, ya, va, ra, da⟩ := (show ObjOk X.prog X.w H s.heap a (.dK ks) from I.hok a _ ea)
  obtain ⟨its, rv, ⟨⟨cls, dd, data, sl⟩, n, hb, hc, hdd, hd⟩, _⟩ := I.list eb
  simp only at hc hd hdd
  subst hc hd hdd
  obtain ⟨o1, _, _, ho1, h1, _⟩ := da
  have hc1 : o1.cls = .type "dict" := h1.1
  have hne : a ≠ b := fun e => by
    subst e
    rw [hb] at ho1
    cases ho1
    simp at hc1
  refine SeqAt.rc_ne_decline_or (k := false) ⟨_, ho1, hc1⟩ ⟨_, hb, rfl⟩ (by decide) PySem.F.sub_list_dict PySem.F.slot_dict_ne PySem.F.slot_list_ne_refl (fun Q' hq => ?_)
    (fun Q' hq => call_meets PySem.F.slot_list_ne_refl ⟨_, hb, rfl⟩ PySem.F.entry_list_ne (PySem.F.args_list_ne_2 _ _) (dne_list hc1) ⟨hb, ho1, hq⟩)
    (fun Q' hq => wpAny_isSame_ref_other hne ho1 hb (by rw [hc1]; simp) hq) (.inr (by omega)) (fin_bl I q rfl)
  · refine wpAny_call_entry PySem.F.slot_dict_ne ⟨_, ho1, hc1⟩ PySem.F.entry_dict_ne ?_ (PySem.F.args_dict_ne_2 _ _)
    show wpAny _ _ (Builtin.Dict.dictSlotArgs "__ne__" ⟨[.ref a, .ref b], []⟩ >>= _) _ _ s
    refine wpAny_bind ?_
    unfold Builtin.Dict.dictSlotArgs
    refine wpAny_bind (wpAny_notOrdered_dict ⟨_, ho1, hc1⟩ ?_)
    show wpAny _ _ (pure (Value.ref a, Value.ref b)) _ _ s
    refine wpAny_pure ?_
    refine wpAny_bind (wpAny_isInstance (T := "list") ⟨_, hb, rfl⟩ PySem.F.sub_list_dict ?_)
    simp only [Bool.not_false, if_true]
    refine wpAny_bind (wpAny_rule ?_)
    exact wpAny_pure ⟨_, rfl, hq⟩
end
end DL

set_option maxHeartbeats 4000000
/-! DL5: one rule an expression. -/
namespace DL
open PySem PySem.Spec PyProof.Rows L2

section
variable {X : Cx} {cl : Cls0} {a b c ex : Expr} {pos : Pos}

theorem xe_var {i : Nat} {x : Str} (hN : X.N[i]? = some x) (hv : Vis X.env.scope x) (hd : (x == ("__debug__" : Str)) = false) (hcd : (x == ("__classdict__" : Str)) = false) :
    PE X (.Name x pos) (tE cl fun f n k => match f[i]? with | some (.v d b) => k (d, b) n | _ => False) := by
  refine (pe_var hN hv hd hcd).imp fun σ H Q ⟨P, G0, H0, W, n, f, G, K, hc, S, e, h⟩ => ?_
  dsimp only at e
  split at e
  · rename_i d b hf
    obtain ⟨v, hv, r⟩ := S.sl i _ hf
    refine ⟨v, ?_, h _ _ e v G H S Le.rfl' r⟩
    cases q : σ[i]? with
    | none => rw [q] at hv; cases hv
    | some o => rw [q] at hv; exact congrArg some hv
  · exact e.elim
theorem xo_own {i : Nat} {x : Str} (hN : X.N[i]? = some x) (hv : Vis X.env.scope x) (hd : (x == ("__debug__" : Str)) = false) (hcd : (x == ("__classdict__" : Str)) = false) :
    PE X (.Name x pos) (tO cl fun f n k => match f[i]? with
      | some (.l xs b) => k (.lst xs, b) n
      | some (.k ks xs b) => k (.dic ks xs, b) n
      | some (.kt ks xs b) => k (.dit ks xs, b) n
      | _ => False) := by
  refine (pe_var hN hv hd hcd).imp fun σ H Q ⟨P, G0, H0, W, n, f, G, K, hc, S, e, h⟩ => ?_
  have fin : ∀ {v : V}, (σ[i]?).join = some v → Q v H → ∃ v, σ[i]? = some (some v) ∧ Q v H := fun {v} q w => by
    refine ⟨v, ?_, w⟩
    cases z : σ[i]? with
    | none => rw [z] at q; cases q
    | some o => rw [z] at q; exact congrArg some q
  dsimp only at e
  split at e
  · rename_i xs b hf
    obtain ⟨p, vs, e1, w, e2, r⟩ := S.sl i _ hf
    exact fin e1 (h _ _ e _ G H S Le.rfl' ⟨p, vs, rfl, (S.wk.s i p w).1, (S.wk.s i p w).2, e2, r⟩)
  · rename_i ks xs b hf
    obtain ⟨p, vs, e1, w, e2, l, r⟩ := S.sl i _ hf
    exact fin e1 (h _ _ e _ G H S Le.rfl' ⟨p, vs, rfl, e2, l, r⟩)
  · rename_i ks xs b hf
    obtain ⟨p, vs, e1, w, e2, l, r⟩ := S.sl i _ hf
    exact fin e1 (h _ _ e _ G H S Le.rfl' ⟨p, vs, rfl, e2, l, r⟩)
  · exact e.elim
theorem xo_ex {ev : Ev DB} (h : PE X ex (tE cl ev)) : PE X ex (tO cl ev) :=
  h.imp fun σ H Q ⟨P, G0, H0, W, n, f, G, K, hc, S, e, h⟩ => ⟨P, G0, H0, W, n, f, G, K, hc, S, e, fun r n' hr v G' H' S' L' q => h r n' hr v G' H' S' L' (relO_of S' q)⟩
theorem xe_con {v : V} {d : D} (h : PE X ex (tC v)) (r : ∀ P G, RdD P G v d) : PE X ex (tE cl fun _ n k => k (d, true) n) :=
  h.imp fun σ H Q ⟨P, G0, H0, W, n, f, G, K, hc, S, e, h⟩ => h _ _ e v G H S Le.rfl' (r _ _)

/-! ### operators -/
abbrev evBin (op : Operator) (ea eb : Ev DB) : Ev DB := fun f n k => ea f n fun x n1 => eb f n1 fun y n2 => binD op x y fun r => k r n2
theorem int_of {P : Pt} {G : Hp} {v : V} {i : Int} (h : RdD P G v (.int i)) : v = .int i := by cases h; rfl
theorem str_of {P : Pt} {G : Hp} {v : V} {i : Str} (h : RdD P G v (.str i)) : v = .str i := by cases h; rfl
theorem bl_of {P : Pt} {G : Hp} {v : V} {i : Bool} (h : RdD P G v (.bl i)) : v = .bl i := by cases h; rfl
theorem non_of {P : Pt} {G : Hp} {v : V} (h : RdD P G v .non) : v = .non := by cases h; rfl
theorem xe_bin {op : Operator} {ea eb : Ev DB} (ha : PE X a (tE cl ea)) (hb : PE X b (tE cl eb)) (ok : opOk op = true) : PE X (.BinOp a op b pos) (tE cl (evBin op ea eb)) := by
  have key : ∀ {r : R2}, OpR X (binaryOp op) r → (∀ (P : Pt) (G1 G2 H0 : Hp) (v u : V) (x y : DB) (k : DB → Prop) (H : Hp) (Q : VK), RdD P G1 v x.1 → RdD P G2 u y.1 → binD op x y k → (∀ w d, k (d, true) → d.scal = true → (∀ G', RdD P G' w d) → Q w H) → r v u H Q) → PE X (.BinOp a op b pos) (tE cl (evBin op ea eb)) := fun {r} hr hh =>
    (pe_op hr ha hb).imp fun σ H Q ⟨P, G0, H0, W, n, f, G, K, hc, S, e, h⟩ =>
      TR.two kE kE hc S e fun x y n2 hk v u G2 H2 S2 L2 r1 r2 => hh P _ _ H0 v u x y _ H2 Q r1 r2 hk fun w d kd sd rd => h _ _ kd w G2 H2 S2 L2 (rd _)
  cases op with
  | Add =>
    refine key (op_add.or op_add_str) fun P G1 G2 H0 v u x y k H Q r1 r2 hk fin => ?_
    obtain ⟨x, bx⟩ := x
    obtain ⟨y, by'⟩ := y
    cases x <;> cases y <;> first
      | exact (show False from hk).elim
      | (cases int_of r1; cases int_of r2; exact .inl ⟨_, _, rfl, rfl, fin _ _ hk rfl fun _ => .int _⟩)
      | (cases str_of r1; cases str_of r2; exact .inr ⟨_, _, rfl, rfl, hk.1, fin _ _ hk.2 rfl fun _ => .str _⟩)
  | Sub =>
    refine key op_sub fun P G1 G2 H0 v u x y k H Q r1 r2 hk fin => ?_
    obtain ⟨x, bx⟩ := x
    obtain ⟨y, by'⟩ := y
    cases x <;> cases y <;> first
      | exact (show False from hk).elim
      | (cases int_of r1; cases int_of r2; exact ⟨_, _, rfl, rfl, fin _ _ hk rfl fun _ => .int _⟩)
  | Mult =>
    refine key (op_mulW.or op_mul) fun P G1 G2 H0 v u x y k H Q r1 r2 hk fin => ?_
    obtain ⟨x, bx⟩ := x
    obtain ⟨y, by'⟩ := y
    cases x <;> cases y <;> first
      | exact (show False from hk).elim
      | (cases int_of r1; cases int_of r2
         obtain ⟨hk1, hk2⟩ := hk
         rcases hk1 with g | g
         · exact .inl ⟨_, _, rfl, rfl, g, fin _ _ hk2 rfl fun _ => .int _⟩
         · exact .inr ⟨_, _, rfl, rfl, g, fin _ _ hk2 rfl fun _ => .int _⟩)
  | FloorDiv =>
    refine key op_fdivW fun P G1 G2 H0 v u x y k H Q r1 r2 hk fin => ?_
    obtain ⟨x, bx⟩ := x
    obtain ⟨y, by'⟩ := y
    cases x <;> cases y <;> first
      | exact (show False from hk).elim
      | (cases int_of r1; cases int_of r2; exact ⟨_, _, rfl, rfl, hk.1, fin _ _ hk.2 rfl fun _ => .int _⟩)
  | Mod =>
    refine key op_mod fun P G1 G2 H0 v u x y k H Q r1 r2 hk fin => ?_
    obtain ⟨x, bx⟩ := x
    obtain ⟨y, by'⟩ := y
    cases x <;> cases y <;> first
      | exact (show False from hk).elim
      | (cases int_of r1; cases int_of r2; exact ⟨_, _, rfl, rfl, hk.1, fin _ _ hk.2 rfl fun _ => .int _⟩)
  | Pow =>
    refine key op_pow fun P G1 G2 H0 v u x y k H Q r1 r2 hk fin => ?_
    obtain ⟨x, bx⟩ := x
    obtain ⟨y, by'⟩ := y
    cases x <;> cases y <;> first
      | exact (show False from hk).elim
      | (cases int_of r1; cases int_of r2; exact ⟨_, _, rfl, rfl, hk.1, fin _ _ hk.2 rfl fun _ => .int _⟩)
  | _ => exact absurd ok Bool.false_ne_true
theorem xe_neg {ea : Ev DB} (ha : PE X a (tE cl ea)) : PE X (.UnaryOp .USub a pos) (tE cl fun f n k => ea f n fun x n1 => match x.1 with | .int i => k (.int (-i), true) n1 | _ => False) :=
  (pe_un un_neg ha).imp fun σ H Q ⟨P, G0, H0, W, n, f, G, K, hc, S, e, h⟩ => TR.one hc S e fun x n1 hx v G1 H1 S1 L1 r1 => by
    obtain ⟨x, bx⟩ := x
    cases x <;> first
      | exact (show False from hx).elim
      | (cases int_of r1; exact ⟨_, rfl, h _ _ hx _ G1 H1 S1 L1 (.int _)⟩)
theorem xe_not {ea : Ev DB} (ha : PE X a (tE cl ea)) : PE X (.UnaryOp .Not a pos) (tE cl fun f n k => ea f n fun x n1 => match x.1 with | .bl c => k (.bl (!c), true) n1 | _ => False) :=
  (pe_not ha).imp fun σ H Q ⟨P, G0, H0, W, n, f, G, K, hc, S, e, h⟩ => TR.one hc S e fun x n1 hx v G1 H1 S1 L1 r1 => by
    obtain ⟨x, bx⟩ := x
    cases x <;> first
      | exact (show False from hx).elim
      | (cases bl_of r1; exact ⟨_, rfl, h _ _ hx _ G1 H1 S1 L1 (.bl _)⟩)
theorem xe_ife {ea eb : Ev DB} {ec : Ev Bool} (hc : PT X c (tT cl ec)) (ha : PE X a (tE cl ea)) (hb : PE X b (tE cl eb)) :
    PE X (.IfExp c a b pos) (tE cl fun f n k => ec f n fun t n1 => if t = true then ea f n1 k else eb f n1 k) :=
  (pe_ifExp hc ha hb).imp fun σ H Q ⟨P, G0, H0, W, n, f, G, K, hcl, S, e, h⟩ => TR.one hcl S e fun t n1 hx v G1 H1 S1 L1 r1 => by
    cases (show v = t from r1)
    cases t with
    | true => exact iteT ⟨P, G0, H0, W, n1, f, G1, K, hcl, S1, by simpa using hx, fun r n' hr v G' H' S' L' q => h r n' hr v G' H' S' (Le.trans S.bs S1.bs.st L1 L') q⟩
    | false => exact iteF ⟨P, G0, H0, W, n1, f, G1, K, hcl, S1, by simpa using hx, fun r n' hr v G' H' S' L' q => h r n' hr v G' H' S' (Le.trans S.bs S1.bs.st L1 L') q⟩
end

/-! ### comparisons -/
section
variable {P : Pt} {G H : Hp} {K : PySem.W.Frag}
mutual
theorem dp_of (g : Sub G H) : ∀ (d : D) (v : V) (p : PyData), RdD P G v d → d.toP = some p → Dp K H v p
  | .non, _, _, r, e => by cases r; cases e; exact .non
  | .bl b, _, _, r, e => by cases r; cases e; exact .bl b
  | .int i, _, _, r, e => by cases r; cases e; exact .int i
  | .str x, _, _, r, e => by cases r; cases e; exact .str x
  | .lst xs, v, p, r, e => by
    cases r with
    | lst h r =>
      have e' : (D.toPs xs).map PyData.list = some p := e
      obtain ⟨ps, e1, e2⟩ := Option.map_eq_some_iff.mp e'
      subst e2
      exact .lst (SqL.of (g _ _ h)) (dps_of g xs _ ps r e1)
  | .tup xs, v, p, r, e => by
    cases r with
    | tup h r =>
      have e' : (D.toPs xs).map PyData.tuple = some p := e
      obtain ⟨ps, e1, e2⟩ := Option.map_eq_some_iff.mp e'
      subst e2
      exact .tup (SqT.of (g _ _ h)) (dps_of g xs _ ps r e1)
  | .strm, _, _, _, e => by cases e
  | .dic _ _, _, _, _, e => by cases e
  | .dit _ _, _, _, _, e => by cases e
  | .ins _ _, _, _, _, e => by cases e
theorem dps_of (g : Sub G H) : ∀ (ds : List D) (vs : List V) (ps : List PyData), RdL P G vs ds → D.toPs ds = some ps → DpAll K H vs ps
  | [], _, _, r, e => by cases r; cases e; exact .nil
  | d :: ds, _, ps, r, e => by
    cases r with
    | cons r rs =>
      have e' : (match d.toP, D.toPs ds with
        | some p, some ps => some (p :: ps)
        | _, _ => none) = some ps := e
      split at e'
      · rename_i q qs h1 h2
        cases e'
        exact .cons (dp_of g d _ q r h1) (dps_of g ds _ qs rs h2)
      · cases e'
end
theorem lookK_some {κ : Type} [DecidableEq κ] : ∀ {ks : List κ} {vs : List V} {xs : List D} {j : κ} {d : D}, RdL P G vs xs → lookK ks xs j = some d → ∃ v, valV (ks.zip vs) j = some v ∧ RdD P G v d
  | k :: ks, _, _, j, d, .cons (v := v) (vs := vs) r rs, e => by
    have e' : (if k = j then some _ else lookK ks _ j) = some d := e
    rw [List.zip_cons_cons]
    by_cases h : k = j
    · rw [if_pos h] at e'
      cases e'
      exact ⟨v, valV_pos h, r⟩
    · rw [if_neg h] at e'
      rw [valV_neg h]
      exact lookK_some rs e'
  | [], _, _, _, _, _, e => by simp [lookK] at e
  | _ :: _, _, _, _, _, .nil, e => by simp [lookK] at e
theorem lookK_none {κ : Type} [DecidableEq κ] : ∀ {ks : List κ} {vs : List V} {xs : List D} {j : κ}, RdL P G vs xs → (valV (ks.zip vs) j).isSome = (lookK ks xs j).isSome
  | k :: ks, _, _, j, .cons (v := v) (vs := vs) (d := x) (ds := xs) r rs => by
    show (valV (List.zip (k :: ks) (v :: vs)) j).isSome = (if k = j then some x else lookK ks xs j).isSome
    rw [List.zip_cons_cons]
    by_cases h : k = j
    · rw [if_pos h, valV_pos h]; rfl
    · rw [if_neg h, valV_neg h]; exact lookK_none rs
  | [], _, _, _, _ => by simp [lookK, valV]
  | _ :: _, _, _, _, .nil => by simp [lookK, valV]
theorem key_ofD {v : V} {d : D} {j : Key} (r : RdD P G v d) (e : d.key = some j) : v = kV j := by
  cases r <;> cases e <;> rfl
theorem keys_ofD : ∀ {vs : List V} {ds : List D} {j : List Key}, RdL P G vs ds → keysOf ds = some j → vs = j.map kV
  | _, _, _, .nil, e => by cases e; rfl
  | _, _, j, .cons (d := d) (ds := ds) r rs, e => by
    have e' : (match d.key, keysOf ds with
      | some k, some ks => some (k :: ks)
      | _, _ => none) = some j := e
    split at e'
    · rename_i k ks h1 h2
      cases e'
      rw [key_ofD r h1, keys_ofD rs h2, List.map_cons]
    · cases e'
theorem toV_of {v : V} {d : D} (r : RdD P G v d) (s : d.scal = true) : v = d.toV ∧ flatV d.toV = true := by
  cases r <;> first
    | exact ⟨rfl, rfl⟩
    | exact absurd s Bool.false_ne_true
theorem toVs_of : ∀ {vs : List V} {ds : List D}, RdL P G vs ds → ds.all D.scal = true → vs = ds.map D.toV ∧ vs.all flatV = true
  | _, _, .nil, _ => ⟨rfl, rfl⟩
  | _, _, .cons r rs, s => by
    rw [List.all_cons, Bool.and_eq_true] at s
    obtain ⟨h1, h2⟩ := toV_of r s.1
    obtain ⟨h3, h4⟩ := toVs_of rs s.2
    subst h1
    exact ⟨by rw [List.map_cons, ← h3], by rw [List.all_cons, h2, h4]; rfl⟩
end
end DL

set_option maxHeartbeats 4000000
/-! DL6: comparisons, subscripts, calls. -/
namespace DL
open PySem PySem.Spec PyProof.Rows L2

section
variable {X : Cx} {cl : Cls0} {a b c ex : Expr} {pos : Pos}
def rInD : R2 := fun x y H Q => ∃ a o, y = .ref a ∧ DGet H a x o ∧ Q (.bl o.isSome) H
def rNotInD : R2 := fun x y H Q => ∃ a o, y = .ref a ∧ DGet H a x o ∧ Q (.bl (!o.isSome)) H
theorem op_inD (hu : X.A.units + 1 < cLine) : OpR X (compareOp .In) rInD := by
  intro pins s σ H x y v u Q I rx ry h
  obtain ⟨a, o, rfl, g, q⟩ := h
  cases ry
  exact d_in hu I g rx fun s' I' => ⟨.bl o.isSome, H, I', rfl, q⟩
theorem op_notInD (hu : X.A.units + 1 < cLine) : OpR X (compareOp .NotIn) rNotInD := by
  intro pins s σ H x y v u Q I rx ry h
  obtain ⟨a, o, rfl, g, q⟩ := h
  cases ry
  exact d_notIn hu I g rx fun s' I' => ⟨.bl (!o.isSome), H, I', rfl, q⟩

section
variable {P : Pt} {G0 H0 G H H1 : Hp} {W : Nat → Addr → Prop} {n : Nat} {σ : L2.St} {f : Fr} {K : PySem.W.Frag} {v : V} {d : D} {fb : Bool}
theorem dpO (S : SR P G0 H0 W n σ f G H) (r : relO P H1 H0 G H v (d, fb)) {p : PyData} (e : d.toP = some p) : Dp K H v p := by
  cases d with
  | lst xs =>
    obtain ⟨a, vs, rfl, _, _, h, r⟩ := r
    have e' : (D.toPs xs).map PyData.list = some p := e
    obtain ⟨ps, e1, e2⟩ := Option.map_eq_some_iff.mp e'
    subst e2
    exact .lst (SqL.of h) (dps_of (fun a o q => S.bs.gh a o (rg_sub a o q)) xs _ ps r e1)
  | dic _ _ => cases e
  | dit _ _ => cases e
  | _ => exact dp_of (G := rg fb G H0) (fun a o q => S.bs.gh a o (rg_sub a o q)) _ _ _ r e
theorem nonO (r : relO P H1 H0 G H v (d, fb)) : decide (v = .non) = d.isNon := by
  cases d with
  | lst xs => obtain ⟨a, vs, rfl, _⟩ := r; rfl
  | dic _ _ => obtain ⟨a, vs, rfl, _⟩ := r; rfl
  | dit _ _ => obtain ⟨a, vs, rfl, _⟩ := r; rfl
  | _ =>
    have r' : RdD P (rg fb G H0) v _ := r
    cases r' <;> rfl
theorem dgetO (S : SR P G0 H0 W n σ f G H) {ks : List Key} {xs : List D} {u : V} {gb : Bool} {j : Key} (ry : relO P H1 H0 G H u (.dic ks xs, gb)) (rx : relO P H1 H0 G H v (d, fb)) (e : d.key = some j) :
    ∃ a o, u = .ref a ∧ DGet H a v o ∧ o.isSome = (lookK ks xs j).isSome ∧ ∀ z, lookK ks xs j = some z → ∃ w, o = some w ∧ RdD P (rg gb G H0) w z := by
  obtain ⟨a, vs, rfl, h, l, r⟩ := ry
  have ev : v = kV j := by
    cases d with
    | int i => exact key_ofD (P := P) (G := rg fb G H0) rx e
    | str i => exact key_ofD (P := P) (G := rg fb G H0) rx e
    | _ => cases e
  subst ev
  refine ⟨a, _, rfl, DGet.k h, lookK_none r, fun z hz => ?_⟩
  obtain ⟨w, h1, h2⟩ := lookK_some r hz
  exact ⟨w, h1, h2⟩
theorem dgetT (S : SR P G0 H0 W n σ f G H) {ks : List (List Key)} {xs ys : List D} {u : V} {gb : Bool} {j : List Key} (ry : relO P H1 H0 G H u (.dit ks xs, gb)) (rx : relO P H1 H0 G H v (.tup ys, fb)) (e : keysOf ys = some j) :
    ∃ a o, u = .ref a ∧ DGet H a v o ∧ o.isSome = (lookK ks xs j).isSome ∧ ∀ z, lookK ks xs j = some z → ∃ w, o = some w ∧ RdD P (rg gb G H0) w z := by
  obtain ⟨a, vs, rfl, h, l, r⟩ := ry
  have rx' : RdD P (rg fb G H0) v (.tup ys) := rx
  cases rx' with
  | tup h2 r2 =>
    have e2 := keys_ofD r2 e
    subst e2
    refine ⟨a, _, rfl, DGet.t h (S.bs.gh _ _ (rg_sub _ _ h2)), lookK_none r, fun z hz => ?_⟩
    obtain ⟨w, h1, h2⟩ := lookK_some r hz
    exact ⟨w, h1, h2⟩
theorem inO (S : SR P G0 H0 W n σ f G H) {xs : List D} {u : V} {gb : Bool} (ry : relO P H1 H0 G H u (.lst xs, gb) ∨ relO P H1 H0 G H u (.tup xs, gb)) (rx : relO P H1 H0 G H v (d, fb)) (s1 : d.scal = true) (s2 : xs.all D.scal = true) :
    ∃ p zs, u = .ref p ∧ (SqL K H p zs ∨ SqT K H p zs) ∧ flatV v = true ∧ zs.all flatV = true ∧ inV v zs = inV d.toV (xs.map D.toV) := by
  have rv : v = d.toV ∧ flatV d.toV = true := by
    cases d with
    | non => exact toV_of (P := P) (G := rg fb G H0) rx s1
    | bl b => exact toV_of (P := P) (G := rg fb G H0) rx s1
    | int b => exact toV_of (P := P) (G := rg fb G H0) rx s1
    | str b => exact toV_of (P := P) (G := rg fb G H0) rx s1
    | _ => exact absurd s1 Bool.false_ne_true
  obtain ⟨ev, fv⟩ := rv
  subst ev
  rcases ry with ry | ry
  · obtain ⟨p, vs, rfl, _, _, h, r⟩ := ry
    obtain ⟨e1, e2⟩ := toVs_of r s2
    exact ⟨p, vs, rfl, .inl (SqL.of h), fv, e2, by rw [← e1]⟩
  · have r' : RdD P (rg gb G H0) u (.tup xs) := ry
    cases r' with
    | tup h r =>
      obtain ⟨e1, e2⟩ := toVs_of r s2
      exact ⟨_, _, rfl, .inr (SqT.of (S.bs.gh _ _ (rg_sub _ _ h))), fv, e2, by rw [← e1]⟩
end
/-- one rule a comparison -/
theorem cmp_rule (hu : X.A.units + 64 < cLine) (op : CmpOp) : ∃ r : R2, OpR X (compareOp op) r ∧ ∀ (P : Pt) (G0 H0 G H H1 : Hp) (W : Nat → Addr → Prop) (n : Nat) (σ : L2.St) (f : Fr) (v u : V) (x y : DB) (k : Bool → Prop) (Q : VK),
    SR P G0 H0 W n σ f G H → relO P H1 H0 G H v x → relO P H1 H0 G H u y → cmpD op x.1 y.1 k → (∀ c, k c → Q (.bl c) H) → r v u H Q := by
  have hu1 : X.A.units + 1 < cLine := by omega
  cases op with
  | Eq =>
    refine ⟨_, op_eqD hu, fun P G0 H0 G H H1 W n σ f v u x y k Q S rx ry h q => ?_⟩
    obtain ⟨p, r, e1, e2, s1, s2, hk⟩ := h
    exact ⟨p, r, dpO S rx e1, dpO S ry e2, s1, s2, q _ hk⟩
  | NotEq =>
    refine ⟨_, (op_neD hu).or (op_neDl hu1), fun P G0 H0 G H H1 W n σ f v u x y k Q S rx ry h q => ?_⟩
    have old : (∃ p q, x.1.toP = some p ∧ y.1.toP = some q ∧ SeqAt.shaped p = true ∧ SeqAt.shaped q = true ∧ k (!PyData.eqv p q)) → rNeD X.K v u H Q := fun ⟨p, r, e1, e2, s1, s2, hk⟩ => ⟨p, r, dpO S rx e1, dpO S ry e2, s1, s2, q _ hk⟩
    obtain ⟨x, bx⟩ := x
    obtain ⟨y, by'⟩ := y
    cases x with
    | dic ks xs =>
      cases y with
      | lst ys =>
        obtain ⟨a, _, rfl, h1, _⟩ := rx
        obtain ⟨b, _, rfl, _, _, h2, _⟩ := ry
        exact .inr ⟨a, b, _, _, rfl, rfl, h1, SqL.of h2, q _ h⟩
      | _ => exact .inl (old h)
    | _ => exact .inl (old h)
  | Lt =>
    refine ⟨_, op_lt, fun P G0 H0 G H H1 W n σ f v u x y k Q S rx ry h q => ?_⟩
    obtain ⟨x, bx⟩ := x
    obtain ⟨y, by'⟩ := y
    cases x <;> cases y <;> first
      | exact (show False from h).elim
      | (cases int_of (P := P) (G := rg bx G H0) rx; cases int_of (P := P) (G := rg by' G H0) ry; exact ⟨_, _, rfl, rfl, q _ h⟩)
  | LtE =>
    refine ⟨_, op_le, fun P G0 H0 G H H1 W n σ f v u x y k Q S rx ry h q => ?_⟩
    obtain ⟨x, bx⟩ := x
    obtain ⟨y, by'⟩ := y
    cases x <;> cases y <;> first
      | exact (show False from h).elim
      | (cases int_of (P := P) (G := rg bx G H0) rx; cases int_of (P := P) (G := rg by' G H0) ry; exact ⟨_, _, rfl, rfl, q _ h⟩)
  | Gt =>
    refine ⟨_, op_gt, fun P G0 H0 G H H1 W n σ f v u x y k Q S rx ry h q => ?_⟩
    obtain ⟨x, bx⟩ := x
    obtain ⟨y, by'⟩ := y
    cases x <;> cases y <;> first
      | exact (show False from h).elim
      | (cases int_of (P := P) (G := rg bx G H0) rx; cases int_of (P := P) (G := rg by' G H0) ry; exact ⟨_, _, rfl, rfl, q _ h⟩)
  | GtE =>
    refine ⟨_, op_ge, fun P G0 H0 G H H1 W n σ f v u x y k Q S rx ry h q => ?_⟩
    obtain ⟨x, bx⟩ := x
    obtain ⟨y, by'⟩ := y
    cases x <;> cases y <;> first
      | exact (show False from h).elim
      | (cases int_of (P := P) (G := rg bx G H0) rx; cases int_of (P := P) (G := rg by' G H0) ry; exact ⟨_, _, rfl, rfl, q _ h⟩)
  | Is =>
    refine ⟨_, op_isN, fun P G0 H0 G H H1 W n σ f v u x y k Q S rx ry h q => ?_⟩
    obtain ⟨x, bx⟩ := x
    obtain ⟨y, by'⟩ := y
    have key : y = .non → k x.isNon → u = .non ∧ Q (.bl (decide (v = .non))) H := fun e hk => by
      subst e
      exact ⟨non_of (P := P) (G := rg by' G H0) ry, by rw [nonO rx]; exact q _ hk⟩
    cases x <;> cases y <;> first
      | exact (show False from h).elim
      | exact key rfl h
  | IsNot =>
    refine ⟨_, op_notN, fun P G0 H0 G H H1 W n σ f v u x y k Q S rx ry h q => ?_⟩
    obtain ⟨x, bx⟩ := x
    obtain ⟨y, by'⟩ := y
    have key : y = .non → k (!x.isNon) → u = .non ∧ Q (.bl (!decide (v = .non))) H := fun e hk => by
      subst e
      exact ⟨non_of (P := P) (G := rg by' G H0) ry, by rw [nonO rx]; exact q _ hk⟩
    cases x <;> cases y <;> first
      | exact (show False from h).elim
      | exact key rfl h
  | In =>
    refine ⟨_, (op_inD hu1).or op_in_seq, fun P G0 H0 G H H1 W n σ f v u x y k Q S rx ry h q => ?_⟩
    obtain ⟨x, bx⟩ := x
    obtain ⟨y, by'⟩ := y
    have k1 : ∀ ks xs, y = .dic ks xs → (∃ j, x.key = some j ∧ k (lookK ks xs j).isSome) → rInD v u H Q := fun ks xs e ⟨j, e1, hk⟩ => by
      subst e
      obtain ⟨a, o, h1, h2, h3, _⟩ := dgetO S ry rx e1
      exact ⟨a, o, h1, h2, q _ (by rw [h3]; exact hk)⟩
    have k2 : ∀ ks xs ys, y = .dit ks xs → x = .tup ys → (∃ j, keysOf ys = some j ∧ k (lookK ks xs j).isSome) → rInD v u H Q := fun ks xs ys e e' ⟨j, e1, hk⟩ => by
      subst e e'
      obtain ⟨a, o, h1, h2, h3, _⟩ := dgetT S ry rx e1
      exact ⟨a, o, h1, h2, q _ (by rw [h3]; exact hk)⟩
    have k3 : ∀ xs, (y = .lst xs ∨ y = .tup xs) → (x.scal = true ∧ xs.all D.scal = true ∧ k (inV x.toV (xs.map D.toV))) → rIn X.K false v u H Q := fun xs e ⟨s1, s2, hk⟩ => by
      obtain ⟨p, zs, h1, h2, h3, h4, h5⟩ := inO (K := X.K) S (gb := by') (u := u) (xs := xs) (by rcases e with e | e <;> subst e; exact .inl ry; exact .inr ry) rx s1 s2
      exact ⟨p, zs, h1, h2, h3, h4, q _ (by rw [h5]; exact hk)⟩
    cases y with
    | dic ks xs => exact .inl (k1 _ _ rfl (by cases x <;> exact h))
    | dit ks xs => cases x <;> first | exact (show False from h).elim | exact .inl (k2 _ _ _ rfl rfl h)
    | lst xs => exact .inr (k3 _ (.inl rfl) (by cases x <;> exact h))
    | tup xs => exact .inr (k3 _ (.inr rfl) (by cases x <;> exact h))
    | _ => cases x <;> exact (show False from h).elim
  | NotIn =>
    refine ⟨_, (op_notInD hu1).or op_notIn_seq, fun P G0 H0 G H H1 W n σ f v u x y k Q S rx ry h q => ?_⟩
    obtain ⟨x, bx⟩ := x
    obtain ⟨y, by'⟩ := y
    have k1 : ∀ ks xs, y = .dic ks xs → (∃ j, x.key = some j ∧ k (!(lookK ks xs j).isSome)) → rNotInD v u H Q := fun ks xs e ⟨j, e1, hk⟩ => by
      subst e
      obtain ⟨a, o, h1, h2, h3, _⟩ := dgetO S ry rx e1
      exact ⟨a, o, h1, h2, q _ (by rw [h3]; exact hk)⟩
    have k2 : ∀ ks xs ys, y = .dit ks xs → x = .tup ys → (∃ j, keysOf ys = some j ∧ k (!(lookK ks xs j).isSome)) → rNotInD v u H Q := fun ks xs ys e e' ⟨j, e1, hk⟩ => by
      subst e e'
      obtain ⟨a, o, h1, h2, h3, _⟩ := dgetT S ry rx e1
      exact ⟨a, o, h1, h2, q _ (by rw [h3]; exact hk)⟩
    have k3 : ∀ xs, (y = .lst xs ∨ y = .tup xs) → (x.scal = true ∧ xs.all D.scal = true ∧ k (!inV x.toV (xs.map D.toV))) → rIn X.K true v u H Q := fun xs e ⟨s1, s2, hk⟩ => by
      obtain ⟨p, zs, h1, h2, h3, h4, h5⟩ := inO (K := X.K) S (gb := by') (u := u) (xs := xs) (by rcases e with e | e <;> subst e; exact .inl ry; exact .inr ry) rx s1 s2
      exact ⟨p, zs, h1, h2, h3, h4, q _ (by rw [h5]; exact hk)⟩
    cases y with
    | dic ks xs => exact .inl (k1 _ _ rfl (by cases x <;> exact h))
    | dit ks xs => cases x <;> first | exact (show False from h).elim | exact .inl (k2 _ _ _ rfl rfl h)
    | lst xs => exact .inr (k3 _ (.inl rfl) (by cases x <;> exact h))
    | tup xs => exact .inr (k3 _ (.inr rfl) (by cases x <;> exact h))
    | _ => cases x <;> exact (show False from h).elim
theorem notSet {op : CmpOp} {e : Expr} {t : TE} (h : ∀ es k p, e ≠ .Set es k p) : behindInMarks op e = false := by
  cases e with
  | Set es k p => exact absurd rfl (h es k p)
  | _ => rfl
theorem xe_cmp {op : CmpOp} {ea eb : Ev DB} (hu : X.A.units + 64 < cLine) (ha : PE X a (tO cl ea)) (hb : PE X b (tO cl eb)) (hm : behindInMarks op b = false) :
    PE X (.Compare a [op] [b] pos) (tE cl fun f n k => ea f n fun x n1 => eb f n1 fun y n2 => cmpD op x.1 y.1 fun c => k (.bl c, true) n2) := by
  obtain ⟨r, hr, hh⟩ := cmp_rule hu op
  exact (pe_cmpR hr ha hb hm).imp fun σ H Q ⟨P, G0, H0, W, n, f, G, K, hc, S, e, h⟩ =>
    TR.two kO kO hc S e fun x y n2 hk v u G2 H2 S2 L2 r1 r2 => hh P _ _ _ _ _ _ _ _ _ v u x y _ Q S2 r1 r2 hk fun c kc => h _ _ kc _ G2 H2 S2 L2 (.bl c)
theorem xt_cmp {op : CmpOp} {ea eb : Ev DB} (hu : X.A.units + 64 < cLine) (ha : PE X a (tO cl ea)) (hb : PE X b (tO cl eb)) (hm : behindInMarks op b = false) :
    PT X (.Compare a [op] [b] pos) (tT cl fun f n k => ea f n fun x n1 => eb f n1 fun y n2 => cmpD op x.1 y.1 fun c => k c n2) := by
  obtain ⟨r, hr, hh⟩ := cmp_rule hu op
  exact (pt_cmpR hr ha hb hm).imp fun σ H Q ⟨P, G0, H0, W, n, f, G, K, hc, S, e, h⟩ =>
    TR.two kO kO hc S e fun x y n2 hk v u G2 H2 S2 L2 r1 r2 => hh P _ _ _ _ _ _ _ _ _ v u x y _ _ S2 r1 r2 hk fun c kc => ⟨c, rfl, h _ _ kc _ G2 H2 S2 L2 rfl⟩

/-! ### subscripts -/
def rIxD : R2 := fun x y H Q => ∃ a v, x = .ref a ∧ DGet H a y (some v) ∧ Q v H
theorem ix_dict (hu : X.A.units + 1 < cLine) : IxR X rIxD := by
  intro value slice pins s σ H x y v u Q I rx ry h hs
  obtain ⟨a, w, rfl, g, q⟩ := h
  cases rx
  exact tail_any (dict_typeIs I g) PySem.F.slot_dict_getitem.lookup (d_getItem hu I g ry fun w' s' I' rw' => ⟨w, H, I', rw', q⟩) hs
theorem xe_idx {ea eb : Ev DB} (hu : X.A.units + 64 < cLine) (ha : PE X a (tO cl ea)) (hb : PE X b (tE cl eb)) (hp : PlainIx b) :
    PE X (.Subscript a b pos) (tE cl fun f n k => ea f n fun x n1 => eb f n1 fun y n2 => idxD x y fun r => k r n2) := by
  refine (pe_ix (ix_seq.or (ix_dict (by omega))) ha hb hp).imp fun σ H Q ⟨P, G0, H0, W, n, f, G, K, hc, S, e, h⟩ =>
    TR.two kO kE hc S e fun x y n2 hk v u G2 H2 S2 L2 r1 r2 => ?_
  obtain ⟨x, bx⟩ := x
  obtain ⟨y, by'⟩ := y
  have seq : ∀ {xs : List D} {vs : List V} {i : Int} {d : D}, RdL P (rg bx G2 H0) vs xs → atI xs i = some d → K (d, fl bx d) n2 → ∃ w, atI vs i = some w ∧ Q w H2 := fun {xs vs i d} r hd kd => by
    unfold atI at hd ⊢
    rw [r.length]
    cases q : ixN xs.length i with
    | none => rw [q] at hd; cases hd
    | some j =>
      rw [q] at hd
      obtain ⟨w, hw, rw'⟩ := r.get hd
      exact ⟨w, hw, h _ _ kd w G2 H2 S2 L2 rw'.fl⟩
  cases x with
  | lst xs =>
    cases y with
    | int i =>
      obtain ⟨d, hd, kd⟩ := hk
      obtain ⟨p, vs, rfl, _, _, hp2, r⟩ := r1
      cases int_of r2
      obtain ⟨w, hw, q⟩ := seq r hd kd
      exact .inl (.inl ⟨p, vs, i, w, rfl, rfl, SqL.of hp2, hw, q⟩)
    | _ => exact (show False from hk).elim
  | tup xs =>
    cases y with
    | int i =>
      obtain ⟨d, hd, kd⟩ := hk
      have r1' : RdD P (rg bx G2 H0) v (.tup xs) := r1
      cases r1' with
      | tup hp2 r =>
        cases int_of r2
        obtain ⟨w, hw, q⟩ := seq r hd kd
        exact .inl (.inr (.inl ⟨_, _, i, w, rfl, rfl, SqT.of (S2.bs.gh _ _ (rg_sub _ _ hp2)), hw, q⟩))
    | _ => exact (show False from hk).elim
  | str z =>
    cases y with
    | int i =>
      obtain ⟨hz, c, hc', kd⟩ := hk
      cases str_of (P := P) (G := rg bx G2 H0) r1
      cases int_of r2
      exact .inl (.inr (.inr ⟨z, i, c, rfl, rfl, hz, hc', h _ _ kd _ G2 H2 S2 L2 (.str _)⟩))
    | _ => exact (show False from hk).elim
  | dic ks xs =>
    have hk' : ∃ j d, y.key = some j ∧ lookK ks xs j = some d ∧ K (d, fl bx d) n2 := by cases y <;> exact hk
    obtain ⟨j, d, e1, e2, kd⟩ := hk'
    obtain ⟨a, o, ea, g, _, hz⟩ := dgetO S2 r1 (relO_of S2 r2) e1
    obtain ⟨w, rfl, rw'⟩ := hz d e2
    exact .inr ⟨a, w, ea, g, h _ _ kd w G2 H2 S2 L2 rw'.fl⟩
  | dit ks xs =>
    cases y with
    | tup ys =>
      obtain ⟨j, d, e1, e2, kd⟩ := hk
      obtain ⟨a, o, ea, g, _, hz⟩ := dgetT S2 r1 (relO_of S2 r2) e1
      obtain ⟨w, rfl, rw'⟩ := hz d e2
      exact .inr ⟨a, w, ea, g, h _ _ kd w G2 H2 S2 L2 rw'.fl⟩
    | _ => exact (show False from hk).elim
  | _ => exact (show False from hk).elim
end
end DL

set_option maxHeartbeats 4000000
/-! DLG: functions that are called where no guard stands: repr of lists and tuples. -/
namespace DL
open PySem PySem.Spec PyProof.Rows L2

/-- a function's promise where no guard stands (repr's own look for what it is within) -/
structure FnG (P : Program) (w : World) (K : PySem.W.Frag) (mg : Str → Option Value) (base : Heap) (CX : CXT) (k : Nat) (f : Addr) (ps : List Str) (fd : FuncData) (sp : Sp) : Prop where
  len : ∀ vs H Q E, sp vs H Q E → vs.length = ps.length
  run : ∀ {A : Around} {outer : List Env} {s : Shared} {H : Hp} {args : Args} {us : List Value} {vs : List V} {Q : VK} {E : XK}, A.guards = some [] → Room k A → Env0 P w K mg base A outer s H →
    BindsTo s fd args (ps.zip us) → Vals vs us → sp vs H Q E → codeAny (model P w) A (.call (.ref f) args) (CR CX outer P w H s Q E) s
section
variable {P : Program} {w : World} {K : PySem.W.Frag} {mg : Str → Option Value} {base : Heap} {CX : CXT} {k : Nat} {f : Addr} {fd : FuncData} {ps : List Str} {sp : Sp}
theorem FnG.ofOk (F : FnOk P w K mg base CX k f fd ps sp) : FnG P w K mg base CX k f ps fd sp :=
  ⟨F.len, fun {A outer s H args us vs Q E} _ room e b v q => F.run A outer s H args us vs Q E room e b v q⟩
/-- a def whose body may lean on that no guard stands -/
theorem fnG_of {N : List Str} {nm qual : Str} {params : Arguments} {body : List Stmt} {scope : Scope} (F : FunD K nm qual params body scope [] [] f fd) (S : FnScope N ps scope)
    (len : ∀ vs H Q E, sp vs H Q E → vs.length = ps.length)
    (hbody : ∀ (cdv : Value) (A : Around) (outer : List Env) (s : Shared) (H : Hp) (vs : List V) (Q : VK) (E : XK), A.guards = some [] → Room k (A.deeper (envOfC qual scope s.heap.objs.size f cdv)) → sp vs H Q E →
      ∃ t, PSs (cxOf CX P w K mg base N qual scope f cdv A outer s H E) body t ∧ t { nx := fun _ H' => Q .non H', rt := Q } (start N vs) H) :
    FnG P w K mg base CX (k + 1) f ps fd sp := by
  obtain ⟨oc, od, dV, kV, doc, pm, an, cdv, ct, osl, rfl, atF, code, _, _⟩ := F.ex
  constructor
  · exact len
  intro A outer s H args us vs Q E hgd room en bd rel prom
  have nArgs := len _ _ _ _ prom
  have up : ∀ b o, base.get? b = some o → s.heap.get? b = some o := fun b o z => (en.bs b o z).1
  have fragIn : K.In s.heap := en.mod.kin.keeps up
  have nolim : s.heap.NoLimit := en.mod.nolimit.keeps up
  have where_ : ∀ q ∈ ps.zip us, scope.names.lookup q.1 = some .local ∨ (scope.names.lookup q.1 = some .cell ∧ ((cellsFrom (s.heap.objs.size + 1) scope.names []).lookup q.1).isSome = true) := by
    rintro ⟨y, v⟩ hq
    exact (S.par y (List.of_mem_zip hq).1).imp id fun z => ⟨z, PySem.W.cellsFrom_some _ _ _ (.inl z)⟩
  apply codeAny_call_function room.depth (fragIn _ _ atF) rfl S.co S.gen rfl (PySem.W.codeRec_of fragIn code) (bd _ _ _ _ _)
  apply wpAny_newFunctionEnv_cells S.kind where_
  rintro env rfl s1 entry
  constructor
  · exact nolim.keeps entry.toInCall.keep
  apply codeAny_func
  obtain ⟨t, runs, reads⟩ := hbody cdv A outer s H vs Q E hgd (room.deeper _) prom
  have inv : Inv (cxOf CX P w K mg base N qual scope f cdv A outer s H E) [] (start N vs) H s1 := inv_start S room.hd en nArgs rel entry
  have out : ∀ {σ1 : L2.St} {Hn : Hp} {s2 : Shared} {v : V} {u : Value}, Inv (cxOf CX P w K mg base N qual scope f cdv A outer s H E) [] σ1 Hn s2 → RelV v u → Q v Hn → CE outer P w H s Q u s2 :=
    fun {_ Hn _ v _} J rv q => ⟨v, Hn, J.os, J.bare, J.base, J.hok, rv, q⟩
  apply wpAny_mono (runs.run [] s1 (start N vs) H _ inv reads)
  · rintro (_ | _ | _ | u) s2 hs
    · obtain ⟨_, _, J, q⟩ := hs
      exact out (v := V.non) (u := Value.none) J rfl q
    · obtain ⟨_, _, _, q⟩ := hs
      exact q.elim
    · obtain ⟨_, _, _, q⟩ := hs
      exact q.elim
    · obtain ⟨_, _, _, J, rv, q⟩ := hs
      exact out J rv q
  · exact fun _ _ z => z
end
section
variable {X : Cx} {CX : CXT} {k : Nat} {f : Addr} {fd : FuncData} {ps ks : List Str} {sp : Sp} {E : XK} {t tk : TA} {x : Str} {e : Expr} {es : List Expr} {kws : List Keyword} {p pos : Pos} {pins : List (Addr × Obj)} {σ : L2.St} {H : Hp} {s : Shared} {Q : VK}
/-- such a function runs, from a body in which no guard stands -/
theorem runG {args : Args} {us : List Value} {vs : List V} (F : FnG X.prog X.w X.K X.mg X.base CX k f ps fd sp) (gd : X.A.guards = some []) (room : Room k X.A) (hx : Passes CX X E) (I : Inv X pins σ H s) (b : BindsTo s fd args (ps.zip us)) (r : Vals vs us) (h : sp vs H Q E) :
    codeAny (model X.prog X.w) X.A (.call (.ref f) args) (fun r s' => match r with
      | .ok (.ret v) => EP X pins σ Q v s'
      | .ok _ => False
      | .error e => X.xe e s') s := by
  apply codeAny_mono (F.run gd room I.env0 b r h)
  rintro (e | (_ | _ | _ | u)) s2 z
  · exact hx pins σ H s e s2 I z
  · exact z.elim
  · exact z.elim
  · exact z.elim
  · exact I.after z
theorem pe_callG (F : FnG X.prog X.w X.K X.mg X.base CX k f ps fd sp) (gd : X.A.guards = some []) (room : Room k X.A) (hg : Gl X x) (hm : X.mg x = some (.ref f)) (hk : PySem.W.keepIn X.K (.ref f) = true) (hb : Binds X.K fd ps []) (hx : Passes CX X E)
    (ha : PA X (e :: es) t) (hdb : (x == ("__debug__" : Str)) = false) (he : starEach (e :: es) X.env = (false, eval e X.env) :: starEach es X.env) (hpl : (backTo pos (starEach es X.env)).any (·.1) = false) :
    PE X (.Call (.Name x p) (e :: es) [] pos) (tCall sp [] E t) := by
  constructor
  intro pins s σ H Q I h
  apply wpAny_Call_Name_kw (ld_glob I hg hm _ hdb)
  apply PySem.W.callWith_K (h₀ := X.base) I.ok.mod.kin hk _ he hpl
  refine thn (ha.run pos pins s σ H _ I h) fun us s1 ⟨vs, H1, I1, r, q⟩ => ⟨I1.kIn, ?_⟩
  have q' : sp vs H1 Q E := by rw [← List.append_nil vs]; exact q
  have hl : us.length = ps.length := r.length.symm.trans (F.len _ _ _ _ q')
  have bt := hb s1 us I1.kIn (by rw [List.append_nil]; exact hl)
  rw [List.append_nil] at bt
  exact wpAny_call (runG F gd room hx I1 bt r q')
theorem pe_call0G (F : FnG X.prog X.w X.K X.mg X.base CX k f ps fd sp) (gd : X.A.guards = some []) (room : Room k X.A) (hg : Gl X x) (hm : X.mg x = some (.ref f)) (hk : PySem.W.keepIn X.K (.ref f) = true) (hb : Binds X.K fd ps []) (hx : Passes CX X E) (hdb : (x == ("__debug__" : Str)) = false) :
    PE X (.Call (.Name x p) [] [] pos) (tCall sp [] E tNil) := by
  constructor
  intro pins s σ H Q I h
  apply wpAny_Call_Name_kw (ld_glob I hg hm _ hdb)
  have q' : sp [] H Q E := h
  have bt := hb s [] I.kIn (F.len _ _ _ _ q')
  exact PySem.W.callWith_K0 I.kIn hk (wpAny_call (runG (us := []) F gd room hx I bt .nil q'))
theorem runKG {us ws : List Value} {vs zs : List V} {g : List Value → List Value → List Value} {gV : List V → List V → List V} (F : FnG X.prog X.w X.K X.mg X.base CX k f ps fd sp) (gd : X.A.guards = some []) (room : Room k X.A) (hb : KBinds X.K fd ps ks g gV) (hx : Passes CX X E)
    (I : Inv X pins σ H s) (r : Vals vs us) (rz : Vals zs ws) (h : sp (gV vs zs) H Q E) : wpAny (model X.prog X.w) X.A (call (.ref f) us (ks.zip ws)) (EP X pins σ Q) X.xe s :=
  wpAny_call (runG F gd room hx I (hb.to s us ws I.kIn ((hb.rel r rz).length.symm.trans (F.len _ _ _ _ h))) (hb.rel r rz) h)
theorem pe_callKG {g : List Value → List Value → List Value} {gV : List V → List V → List V} (F : FnG X.prog X.w X.K X.mg X.base CX k f ps fd sp) (gd : X.A.guards = some []) (room : Room k X.A) (hg : Gl X x) (hm : X.mg x = some (.ref f)) (hk : PySem.W.keepIn X.K (.ref f) = true) (hb : KBinds X.K fd ps ks g gV) (hx : Passes CX X E)
    (ha : PA X (e :: es) t) (hkw : PK X kws tk) (k1 : (backToKw pos (keywordEach kws X.env)).all (·.1.isSome) = true) (k2 : (backToKw pos (keywordEach kws X.env)).filterMap (·.1) = ks)
    (hdb : (x == ("__debug__" : Str)) = false) (he : starEach (e :: es) X.env = (false, eval e X.env) :: starEach es X.env)
    (hpl : ((backTo pos (starEach (e :: es) X.env)).any (·.1) || (backToKw pos (keywordEach kws X.env)).any (·.1.isNone)) = false) :
    PE X (.Call (.Name x p) (e :: es) kws pos) (tCallK sp gV E t tk) := by
  constructor
  intro pins s σ H Q I h
  apply wpAny_Call_Name_kw (ld_glob I hg hm _ hdb)
  apply PySem.W.callWith_KW (h₀ := X.base) I.ok.mod.kin hk k1 _ hpl he
  refine thn (ha.run pos pins s σ H _ I h) fun us s1 ⟨vs, H1, I1, r, q⟩ => thn (hkw.run pos pins s1 σ H1 _ I1 q) fun ws s2 ⟨zs, H2, I2, rz, q2⟩ => ⟨I2.kIn, ?_⟩
  rw [k2]
  exact runKG F gd room hb hx I2 r rz q2
/-- repr(x), x a list or a tuple -/
theorem call_reprG (gd : X.A.guards = some []) (hu : X.A.units + 64 < cLine) : CallR X (.builtin "repr") (fun xs H Q => ∃ a p, xs = [V.ref a] ∧ Dp X.K H (.ref a) p ∧ p.showable = true ∧ p.hasDict = false ∧ p.depth ≤ 60 ∧ p.shown.length ≤ sizeLine ∧ Q (.str p.shown) H) := by
  intro pins s σ H xs us Q I r h
  obtain ⟨a, d, rfl, dp, sh, nd, dep, sz, q⟩ := h
  obtain ⟨u, rfl, ru⟩ := r.one
  obtain ⟨as, rd⟩ := Dp.reads I d _ u dp ru
  cases (show u = Value.ref a from ru)
  exact repr_of_reads' rd sh (PyData.noDict_hsm nd) gd (by omega) (fun _ _ z => z) (fun h2 tk n keep => ⟨.str d.shown, H, I.kept keep, ⟨tk, rfl⟩, q⟩) sz
/-- repr(x), x any datum that has a text -/
def rReprA (K : PySem.W.Frag) : List V → Hp → VK → Prop := fun xs H Q => ∃ v, xs = [v] ∧ ((v = .non ∧ Q (.str "None") H) ∨ (∃ b, v = .bl b ∧ Q (.str (if b = true then "True" else "False")) H) ∨ (∃ i, v = .int i ∧ i.natAbs.log2 < 1920 ∧ Q (.str (toString i)) H) ∨ (∃ x, v = .str x ∧ (reprText x).length ≤ sizeLine ∧ Q (.str (reprText x)) H) ∨
  (∃ a, v = .ref a ∧ H a = some (.dK []) ∧ Q (.str "{}") H) ∨ ∃ a p, v = .ref a ∧ Dp K H (.ref a) p ∧ p.showable = true ∧ p.hasDict = false ∧ p.depth ≤ 60 ∧ p.shown.length ≤ sizeLine ∧ Q (.str p.shown) H)
theorem call_reprA (gd : X.A.guards = some []) (hu : X.A.units + 64 < cLine) : CallR X (.builtin "repr") (rReprA X.K) := by
  intro pins s σ H xs us Q I r h
  obtain ⟨v, rfl, h⟩ := h
  rcases h with ⟨rfl, q⟩ | ⟨b, rfl, q⟩ | ⟨i, rfl, hz, q⟩ | ⟨x, rfl, hz, q⟩ | ⟨a, rfl, hd, q⟩ | ⟨a, p, rfl, dp, h1, h2, h3, h4, q⟩
  · obtain ⟨u, rfl, ru⟩ := vals1 r
    cases ru
    exact PySem.P.repr_of_none ⟨.str _, H, I.tok _, ⟨_, rfl⟩, q⟩
  · obtain ⟨u, rfl, ru⟩ := vals1 r
    cases ru
    exact PySem.P.repr_of_bool ⟨.str _, H, I.tok _, ⟨s.toks, by cases b <;> rfl⟩, q⟩
  · obtain ⟨u, rfl, t, rfl⟩ := vals1 r
    exact PySem.P.repr_of_int hz ⟨.str _, H, I.tok _, ⟨_, rfl⟩, q⟩
  · obtain ⟨u, rfl, t, rfl⟩ := vals1 r
    exact PySem.P.repr_of_str ⟨.str _, H, I.tok _, ⟨_, rfl⟩, q⟩ hz
  · obtain ⟨u, rfl, ru⟩ := vals1 r
    cases ru
    obtain ⟨z, hs, vs, kv, o, es, ep, ho, hx, hdt, rr⟩ := I.hok a _ hd
    have l1 := rr.2.1.length
    have l2 : ([] : List (Key × V)).length = vs.length := Paired.length kv
    have es0 : es = #[] := by
      rw [Array.length_toList] at l1
      exact Array.eq_empty_of_size_eq_zero (by simpa using l1.trans l2.symm)
    subst es0
    have rd : Reads s.heap (.ref a) (.dict []) (a :: [] ++ []) := Reads.dict ho hx.1 hdt .nil .nil
    have e : (PyData.dict []).shown = ("{}" : Str) := by kernel_rfl
    refine repr_of_reads' rd (by rfl) (fun _ z => ?_) gd (by show X.A.units + (PyData.depth (.dict []) + 1) < cLine; simp [PyData.depth, PyData.depthKv]; omega) (fun _ _ z => z) (fun h2 tk n keep => ⟨.str (PyData.dict []).shown, H, I.kept keep, ⟨tk, rfl⟩, by rw [e]; exact q⟩) (by rw [e, sizeLine_eq]; decide)
    have e2 : sysModules = a := by simpa using z
    rw [← e2] at hs
    simp at hs
  · exact call_reprG gd hu pins s σ H _ us Q I r ⟨a, p, rfl, dp, h1, h2, h3, h4, q⟩
end
/-! ### the head -/
section
variable {P : Program} {w : World} {K : PySem.W.Frag} {mg mb : Str → Option Value} {CX : CXT} {k : Nat} {fa a : Addr} {fd : FuncData} {x : Str} {sp : Sp} {s0 : Shared} {vs : List Value} {ns : List Int}
/-- what the law's run leaves -/
def LawEnd (s0 : Shared) (r : Result) (s' : Shared) : Prop := r = .ok (.ret (.bool true)) ∧ OldK s0.heap s'.heap ∧ s'.os = s0.os ∧ AllBare s'.gens
/-- from an abstract heap in which nothing but the script may be tracked -/
theorem lawG_core (inK : K.In s0.heap) (glob : s0.heap.Ns mainGlobals mg) (blt : s0.heap.Ns builtinsNs mb) (bb : ∀ x : Str, x ≠ "__name__" → mb x = bootBuiltins x) (lim : s0.heap.NoLimit) (ng : s0.gens = #[])
    (ha : s0.heap.get? a = some { cls := .type "list", data := .seq vs.toArray }) (room : Room k callerA)
    (F : ∀ base : Heap, K.In base → base.Ns mainGlobals mg → FnG P w K mg base CX k fa [x] fd sp) (bind : ∀ (s : Shared) (u : Value), BindsTo s fd ⟨[u], []⟩ [(x, u)])
    (noX : ∀ H e s', CX [] H s0 (fun _ _ _ => False) e s' → False)
    {H : Hp} (only : Only H) (prom : sp [.ref a] H (fun v _ => v = .bl true) fun _ _ _ => False) (hok : HOk P w H s0.heap) (alone : ∀ b, H b ≠ none → b = a) (mine : H a ≠ none → K.lookup a = none) :
    codeAny (model P w) callerA (.call (.ref fa) ⟨[.ref a], []⟩) (LawEnd s0) s0 := by
  have out : ∀ {b : Addr} {o : Obj}, s0.heap.get? b = some o → H b = none → (hidT s0.heap H).get? b = some o := fun z n => hidT_get z n
  have notA : ∀ {b : Addr} {o : Obj} {l : Array DictEntry} {m : Nat}, s0.heap.get? b = some o → o.data = .dict l m → H b = none := by
    intro b o l m at_ dt
    rcases z : H b with _ | u
    · rfl
    · obtain rfl := alone b (by rw [z]; exact fun y => by cases y)
      rw [ha] at at_
      cases at_
      exact absurd (show Data.seq vs.toArray _ = Data.dict l m from dt) (fun y => by cases y)
  have nsH : ∀ {b : Addr} {m : Str → Option Value}, s0.heap.Ns b m → (hidT s0.heap H).Ns b m := by
    rintro b m ⟨o, l, n, at_, dt, rest⟩
    exact ⟨o, l, n, out at_ (notA at_ dt), dt, rest⟩
  have inH : K.In (hidT s0.heap H) := by
    intro b o lk
    refine out (inK b o lk) ?_
    rcases z : H b with _ | u
    · rfl
    · obtain rfl := alone b (by rw [z]; exact fun y => by cases y)
      rw [mine (by rw [z]; exact fun y => by cases y)] at lk
      cases lk
  obtain ⟨ml, l1, l2⟩ := lim
  have md : Mod K mg (hidT s0.heap H) := ⟨inH, nsH glob, ⟨mb, nsH blt, bb⟩, ⟨ml, nsH l1, l2⟩⟩
  have en : Env0 P w K mg (hidT s0.heap H) callerA [] s0 H := ⟨rfl, md, fun b o z => of_hidT z, Nat.le_of_eq (hidT_size _ _), trivial, fun b hb => absurd (show b ∈ ([] : List Addr) from hb) (by simp), hok, .of_eq ng⟩
  apply codeAny_mono ((F _ inH (nsH glob)).run (us := [.ref a]) rfl room en (bind s0 (.ref a)) (.cons (show RelV (.ref a) (.ref a) from rfl) .nil) prom)
  rintro (e | (_ | _ | _ | u)) s' z
  · exact (noX H e s' z).elim
  · exact z.elim
  · exact z.elim
  · exact z.elim
  · obtain ⟨v, H', os, bare, un, hok', rv, q⟩ := z
    cases (show v = .bl true from q)
    cases (show u = Value.bool true from rv)
    refine ⟨rfl, OldK.of_keep fun b o at_ => ?_, os, bare⟩
    rcases only b with n | ⟨ob, ys, n⟩
    · exact un.keep b o at_ n (fun y => absurd (show b ∈ ([] : List Addr) from y) (by simp)) (by simp)
    · have e1 := (hok b _ n).1
      have e2 := (hok' b _ (un.frzs b ob _ n)).1
      rw [at_] at e1
      cases e1
      exact e2
theorem lawG_call (inK : K.In s0.heap) (glob : s0.heap.Ns mainGlobals mg) (blt : s0.heap.Ns builtinsNs mb) (bb : ∀ x : Str, x ≠ "__name__" → mb x = bootBuiltins x) (lim : s0.heap.NoLimit) (ng : s0.gens = #[])
    (ha : s0.heap.get? a = some { cls := .type "list", data := .seq vs.toArray }) (isI : IntsAre vs ns) (few : ns.length ≤ sizeLine) (room : Room k callerA)
    (F : ∀ base : Heap, K.In base → base.Ns mainGlobals mg → FnG P w K mg base CX k fa [x] fd sp) (bind : ∀ (s : Shared) (u : Value), BindsTo s fd ⟨[u], []⟩ [(x, u)])
    (prom : ∀ H : Hp, Only H → SqL K H a (ns.map V.int) → sp [.ref a] H (fun v _ => v = .bl true) fun _ _ _ => False)
    (noX : ∀ H e s', CX [] H s0 (fun _ _ _ => False) e s' → False) :
    codeAny (model P w) callerA (.call (.ref fa) ⟨[.ref a], []⟩) (LawEnd s0) s0 := by
  have vals := vals_ints isI
  have size := isI.length
  have core := @lawG_core P w K mg mb CX k fa a fd x sp s0 vs inK glob blt bb lim ng ha room F bind noX
  rcases lk : K.lookup a with _ | o
  · have self : (fun b => if b = a then some (HO.frz { cls := .type "list", data := .seq vs.toArray } (.lst (ns.map V.int))) else none) a = some (.frz { cls := .type "list", data := .seq vs.toArray } (.lst (ns.map V.int))) := if_pos rfl
    have one : ∀ b, (fun b => if b = a then some (HO.frz { cls := .type "list", data := .seq vs.toArray } (.lst (ns.map V.int))) else none) b ≠ none → b = a := fun b nz => Classical.byContradiction fun ne => nz (if_neg ne)
    have only : Only (fun b => if b = a then some (HO.frz { cls := .type "list", data := .seq vs.toArray } (.lst (ns.map V.int))) else none) := fun b => by
      by_cases e : b = a
      · exact .inr ⟨_, _, if_pos e⟩
      · exact .inl (if_neg e)
    refine core only (prom _ only (.inl (.inr ⟨_, self⟩))) (fun b u z => ?_) one fun _ => lk
    obtain rfl := one b fun y => by cases (y.symm.trans z)
    cases (self.symm.trans z)
    exact ⟨ha, by rw [List.length_map]; exact few, vs, _, vals, ha⟩
  · have at_ := inK a o lk
    rw [ha] at at_
    cases at_
    have none_ : Only (fun _ => none) := fun _ => .inl rfl
    refine core none_ (prom _ none_ (.inr ⟨_, vs.toArray, _, lk, rfl, rfl, rfl, by rw [List.size_toArray, size]; exact few, by simpa using vals⟩)) (fun b u z => by cases (show (none : Option HO) = some u from z)) (fun b z => absurd rfl z) fun z => absurd rfl z
end
/-- a law's end: F gives the written part, the function object, the promise over every base -/
theorem walkG {l : PySem.W.OpenLaw} {n k : Nat} {q : Program} {loose : List Str} {XP : (Str → Option Value) → Heap → Prop} {YP : World → Heap → Prop} {d : DefRec} {CX : CXT} {x : Str}
    (most : l.most = some n) (few : n ≤ sizeLine) (nodef : d.params.defaults = []) (room : Room k callerA)
    (F : ∀ (w : World) (mg : Str → Option Value) (fa : Addr) (h : Heap), YP w h → h.Ns mainGlobals mg → mg d.name = some (.ref fa) →
      ∃ (K : PySem.W.Frag) (fd : FuncData) (sp : Sp), K.In h ∧ (∀ (s : Shared) (u : Value), BindsTo s fd ⟨[u], []⟩ [(x, u)]) ∧
        (∀ (H : Hp) (a : Addr) (ns : List Int), ns.length ≤ n → Only H → SqL K H a (ns.map V.int) → sp [.ref a] H (fun v _ => v = .bl true) fun _ _ _ => False) ∧
        ∀ base : Heap, K.In base → base.Ns mainGlobals mg → FnG l.prog w K mg base CX k fa [x] fd sp)
    (noX : ∀ (H : Hp) (s : Shared) (e : Value) (s' : Shared), CX [] H s (fun _ _ _ => False) e s' → False) :
    PySem.W.WalkO q loose XP YP l.row.toRowW d [] (fun f vs => PySem.call f vs) := by
  apply Att.attach_call most nodef
  intro w sA sB mg mb fa o pm cd doc a vs ns G Y ho hd hcd hmg hobj isI cnt ng
  obtain ⟨K, fd, sp, inK, bind, prom, run⟩ := F w mg fa _ Y G.T.g hmg
  exact lawG_call inK G.T.g G.T.b G.T.builtins G.T.nolimit ng hobj isI (Nat.le_trans cnt few) room run bind (fun H o1 s1 => prom H a ns cnt o1 s1) fun H e s' => noX H sB e s'
end DL

set_option maxHeartbeats 4000000
/-! DLR: x[::-1], x a list or a tuple. -/
namespace DL
open PySem PySem.Spec PyProof.Rows L2
section
variable {prog : Program} {w : World} {A : Around} {E : Value → Shared → Prop} {s : Shared}
theorem rev_adjust (n : Nat) : Builtin.Slice.sliceAdjust none none (-1) (n : Int) = ((n : Int) - 1, -1) := by
  unfold Builtin.Slice.sliceAdjust
  simp
theorem rev_places (n : Nat) : Builtin.Slice.slicePlaces ((n : Int) - 1) (-1) (-1) = n := by
  unfold Builtin.Slice.slicePlaces
  simp
  omega
theorem rev_applied {sl : Addr} {vl vu vs : Value} {n : Nat} {Q : Int × Int × Nat → Shared → Prop} (at_ : s.heap.IsSliceOf sl vl vu vs) (pl : IsPart vl none) (pu : IsPart vu none) (ps : IsPart vs (some (-1))) (q : Q ((n : Int) - 1, -1, n) s) :
    wpAny (model prog w) A (Builtin.Slice.sliceApplied (.ref sl) (pure (n : Int))) Q E s := by
  obtain ⟨o, get, _, flds⟩ := id at_
  unfold Builtin.Slice.sliceApplied Builtin.Slice.sliceFields
  apply wpAny_bind
  apply wpAny_bind
  apply wpAny_field get flds (x := vl) rfl
  apply wpAny_bind
  apply wpAny_field get flds (x := vu) rfl
  apply wpAny_bind
  apply wpAny_field get flds (x := vs) rfl
  apply wpAny_pure
  apply wpAny_bind
  apply HT.slicePart_ ps
  show wpAny _ _ (if ((-1 : Int) == 0) = true then _ else _) _ _ s
  rw [if_neg (by decide)]
  apply wpAny_bind
  apply HT.slicePart_ pl
  apply wpAny_bind
  apply HT.slicePart_ pu
  apply wpAny_bind
  apply wpAny_pure
  show wpAny _ _ (match Builtin.Slice.sliceAdjust none none (-1) (n : Int) with | (lo, hi) => pure (lo, (-1 : Int), Builtin.Slice.slicePlaces lo hi (-1))) _ _ s
  rw [rev_adjust]
  show wpAny _ _ (pure ((n : Int) - 1, (-1 : Int), Builtin.Slice.slicePlaces ((n : Int) - 1) (-1) (-1))) _ _ s
  rw [rev_places]
  exact wpAny_pure q
theorem rev_pick (xs : Array Value) : ((List.range xs.size).filterMap fun (m : Nat) => xs[(((xs.size : Int) - 1) + (m : Int) * (-1)).toNat]?).toArray = xs.toList.reverse.toArray := by
  congr 1
  apply List.ext_getElem?
  intro i
  have key : ∀ m, m < xs.size → xs[(((xs.size : Int) - 1) + (m : Int) * (-1)).toNat]? = some (xs.toList.reverse[m]?.getD default) := by
    intro m hm
    rw [show (((xs.size : Int) - 1) + (m : Int) * (-1)).toNat = xs.size - 1 - m by omega, List.getElem?_reverse (by simpa using hm)]
    simp only [Array.length_toList, Array.getElem?_toList]
    rw [Array.getElem?_eq_getElem (by omega)]
    rfl
  have e : (List.range xs.size).filterMap (fun (m : Nat) => xs[(((xs.size : Int) - 1) + (m : Int) * (-1)).toNat]?) = (List.range xs.size).map fun m => xs.toList.reverse[m]?.getD default := by
    have gen : ∀ ms : List Nat, (∀ m ∈ ms, m < xs.size) → ms.filterMap (fun (m : Nat) => xs[(((xs.size : Int) - 1) + (m : Int) * (-1)).toNat]?) = ms.map fun m => xs.toList.reverse[m]?.getD default := by
      intro ms
      induction ms with
      | nil => intro _; rfl
      | cons m ms ih =>
        intro h
        rw [List.filterMap_cons, key m (h m List.mem_cons_self), List.map_cons, ih fun k hk => h k (List.mem_cons_of_mem _ hk)]
    exact gen _ fun m hm => List.mem_range.mp hm
  rw [e, List.getElem?_map]
  by_cases hi : i < xs.size
  · rw [List.getElem?_range hi, Option.map_some, List.getElem?_eq_getElem (by simpa using hi)]
    rfl
  · rw [List.getElem?_eq_none (by simpa using hi), List.getElem?_eq_none (by simpa using hi)]
    rfl
theorem getRev {t sl : Addr} {items : Array Value} {vl vu vs : Value} {Q : Value → Shared → Prop} (ht : IsTup s.heap t items) (at_ : s.heap.IsSliceOf sl vl vu vs) (pl : IsPart vl none) (pu : IsPart vu none) (ps : IsPart vs (some (-1))) (few : items.size ≤ sizeLine)
    (q : Q (.ref s.heap.objs.size) { s with heap := s.heap.push { cls := .type "tuple", data := .seq items.toList.reverse.toArray } }) : wpAny (model prog w) A (getItem (.ref t) (.ref sl)) Q E s := by
  have ok : sizeOk (.seq items.toList.reverse.toArray) := by
    show items.toList.reverse.toArray.size ≤ sizeLine
    rw [List.size_toArray, List.length_reverse, Array.length_toList]
    exact few
  obtain ⟨o, get, cls, _⟩ := id at_
  have isSl : s.TypeIs (.ref sl) "slice" := ⟨o, get, cls⟩
  unfold getItem
  try with_reducible apply wpAny_holding
  first
    | apply wpAny_bind (wpAny_pure _)
    | skip
  apply wpAny_bind (wpAny_sequenceKey ht.typeIs (by decide) _)
  apply wpAny_bind
  apply wpAny_callSpecial?_slot (name := Str.ofString "__getitem__") ht.typeIs PyProof.Rows.slot_tuple_getitem
  apply wpAny_call_entry PyProof.Rows.slot_tuple_getitem ht.typeIs entry_tuple_getitem _ (args_tuple_getitem _ _)
  show wpAny _ _ (Builtin.Tuple.tupleItemsOf (.ref t) >>= _) _ _ s
  apply wpAny_bind
  apply tupleItemsOf_ ht
  apply wpAny_bind
  apply wpAny_typeOf isSl
  rw [if_pos (by decide)]
  apply wpAny_bind
  apply rev_applied at_ pl pu ps
  show wpAny _ _ (if (((items.size : Int) - 1) == 0 && (-1 : Int) == 1 && items.size == items.size) = true then _ else _) _ _ s
  have no : ¬ ((((items.size : Int) - 1) == 0 && (-1 : Int) == 1 && items.size == items.size) = true) := by simp
  rw [if_neg no, rev_pick]
  first
    | exact wpAny_bind (m := Builtin.Tuple.tupleExact _) (wpAny_newObj_type (wpAny_pure ⟨_, rfl, wpAny_pure q⟩) ok)
    | exact wpAny_bind (m := Builtin.Tuple.tupleExact _) (wpAny_newObj_type (wpAny_bind (wpAny_pure (wpAny_pure ⟨_, rfl, wpAny_pure q⟩))) ok)
end
section
variable {X : Cx}
def tRevA (K : PySem.W.Frag) (te : TE) : TE := fun σ H Q => te σ H fun x H1 => ∃ a xs, x = .ref a ∧ ((SqL K H1 a xs ∧ ∀ p, H1 p = none → Q (.ref p) (upd H1 p (.lst xs.reverse))) ∨ (SqT K H1 a xs ∧ ∀ p, H1 p = none → Q (.ref p) (upd H1 p (.tup xs.reverse))))
theorem pe_revA {e : Expr} {te : TE} {k : Nat} {p1 p2 p3 pos : Pos} (he : PE X e te) : PE X (.Subscript e (.Slice none none (some (.UnaryOp .USub (.Constant (.int 1) k p1) p2)) p3) pos) (tRevA X.K te) := by
  constructor
  intro pins s σ H Q I h
  apply Subscript_
  refine thn (he.run pins s σ H _ I h) fun v s1 ⟨x, H1, I1, r1, a, xs, ex, both⟩ => ?_
  subst ex
  cases (show v = Value.ref a from r1)
  have minus : PO X (some (.UnaryOp .USub (.Constant (.int 1) k p1) p2)) (tPart (tUn (rU fun i => .int (-i)) (tC (.int 1)))) := po_some (pe_un un_neg pe_int)
  apply wpAny_Slice
  refine thn (po_none.run pins s1 σ H1 (fun o Hn => o = none ∧ Hn = H1) I1 ⟨rfl, rfl⟩) fun vl s2 ⟨_, H2, I2, pl, el, eh⟩ => ?_
  subst el eh
  refine thn (po_none.run pins s2 σ H2 (fun o Hn => o = none ∧ Hn = H2) I2 ⟨rfl, rfl⟩) fun vu s3 ⟨_, H3, I3, pu, eu, eh⟩ => ?_
  subst eu eh
  refine thn (minus.run pins s3 σ H3 (fun o Hn => o = some (-1) ∧ Hn = H3) I3 ⟨1, rfl, -1, rfl, rfl, rfl⟩) fun vs s4 ⟨_, H4, I4, ps, eo, eh⟩ => ?_
  subst eo eh
  have I5 : Inv X pins σ H4 { s4 with heap := s4.heap.push { cls := .type "slice", data := .fields #[vl, vu, vs] } } := I4.kept (t' := s4.toks) fun b ob z => Heap.get?_push_of_some _ z
  rcases both with ⟨sq, q⟩ | ⟨sq, q⟩
  · obtain ⟨its, vals, lst, few⟩ := I5.list sq
    have len := vals.length
    refine PyProof.Rows.tail_any (ops := [.ref a, .ref s4.heap.objs.size]) lst.isList.typeIs PySem.slot_list_getitem.lookup ?_ (by with_unfolding_all rfl)
    refine wpAny_getItem_list_slice lst.isList (Heap.IsSliceOf.new _ vl vu vs) pl pu ps (by decide) ?_ (by rw [List.size_toArray]; omega)
    · rw [PySem.W.krv_pick]
      refine ⟨.ref _, _, I5.laid (t' := s4.toks) (o := .lst xs.reverse) (fun b ob z => Heap.get?_push_of_some _ z) (Nat.le_refl _) ?_, rfl, q _ (I5.hok.fresh (Nat.le_refl _))⟩
      exact ⟨by rw [List.length_reverse]; exact few, _, 0, vals.reverse, Heap.get?_push_size _ rfl⟩
  obtain ⟨its, vals, tup, few⟩ := I5.tuple sq
  have len := vals.length
  refine PyProof.Rows.tail_any (ops := [.ref a, .ref s4.heap.objs.size]) tup.typeIs PyProof.Rows.slot_tuple_getitem.lookup ?_ (by with_unfolding_all rfl)
  apply getRev tup (Heap.IsSliceOf.new _ vl vu vs) pl pu ps (by rw [List.size_toArray]; omega)
  refine ⟨.ref _, _, I5.laid (t' := s4.toks) (o := .tup xs.reverse) (fun b ob z => Heap.get?_push_of_some _ z) (Nat.le_refl _) ?_, rfl, q _ (I5.hok.fresh (Nat.le_refl _))⟩
  exact ⟨by rw [List.length_reverse]; exact few, _, vals.reverse, IsTup.new _ _⟩
end
end DL

set_option maxHeartbeats 4000000
/-! DLE: enumerate of a list or a tuple. -/
namespace DL
open PySem PySem.Spec PyProof.Rows L2
set_option maxHeartbeats 1000000 in
theorem meets_enum1 {v : Value} {o : Obj} {H : Heap → Prop} (B : Begins v o H) :
    Meets (Builtin.«enumerate.__new__» ⟨[.type "enumerate", v], []⟩) (fun _ R s => H s.heap ∧
      R (.ok (.ret (.ref (s.heap.push o).objs.size))) { s with heap := (s.heap.push o).push { cls := .type "enumerate", data := .fields #[.none, .bool false, .ref s.heap.objs.size, rawInt 0, .none, .none] } }) :=
  .of_wp fun prog w A R s h => by
    obtain ⟨hp, g, d, tk, os⟩ := s
    obtain ⟨at_, q⟩ := h
    have hsub := sub_enumerate
    have start : ∀ {A' : Around} {E : Value → Shared → Prop} {Q : Value → Shared → Prop}, Q (.ref hp.objs.size) ⟨hp.push o, g, d, tk, os⟩ → wpAny (model prog w) A' (pyIter v) Q E ⟨hp, g, d, tk, os⟩ :=
      fun z => B.iter prog w _ _ ⟨hp, g, d, tk, os⟩ _ at_ z
    wp_walk using start
    refine wpAny_stack_any fun st => wpAny_pure ?_
    split
    · rename_i c _ _ _ _ _
      rcases (c == Value.type "enumerate") with _ | _
      · wp_walk using start
        exact ⟨_, rfl, q⟩
      · wp_walk using start
        exact ⟨_, rfl, q⟩
    · wp_walk using start
      exact ⟨_, rfl, q⟩
section
variable {prog : Program} {w : World} {A : Around} {E : Value → Shared → Prop} {s : Shared}
theorem enum_start {v : Value} {o : Obj} {H : Heap → Prop} {Q : Value → Shared → Prop} (B : Begins v o H) (at_ : H s.heap)
    (q : ∀ h', IsEnum h' (s.heap.objs.size + 1) s.heap.objs.size 0 .none → h'.get? s.heap.objs.size = some o →
      (∀ b o, s.heap.get? b = some o → h'.get? b = some o) → Q (.ref (s.heap.objs.size + 1)) { s with heap := h' }) :
    wpAny (model prog w) A (call (.type "enumerate") [v]) Q E s := by
  apply callType_new F.called_enumerate (by decide) (F.typeCall_enumerate_1 _) (F.newCall_enumerate_1 _) (fun obj => F.args_object_init_2 obj _) F.entry_enumerate_new (meets_enum1 B)
  have one : (s.heap.push o).objs.size = s.heap.objs.size + 1 := Heap.size_push ..
  refine ⟨at_, ?_⟩
  show _ ∧ _
  rw [one]
  have isE : IsEnum ((s.heap.push o).push { cls := .type "enumerate", data := .fields #[.none, .bool false, .ref s.heap.objs.size, rawInt 0, .none, .none] }) (s.heap.objs.size + 1) s.heap.objs.size 0 .none := by
    have z := Heap.get?_push_size (s.heap.push o) (o := { cls := .type "enumerate", data := .fields #[.none, .bool false, .ref s.heap.objs.size, rawInt 0, .none, .none] }) rfl
    rw [one] at z
    exact z
  exact ⟨⟨_, isE, rfl⟩, q _ isE (Heap.get?_push_of_some _ (Heap.get?_push_size _ B.free)) fun b u z => Heap.get?_push_of_some _ (Heap.get?_push_of_some _ z)⟩
end
/-- a tuple's items, each with its index, in new pairs -/
def IteT (K : PySem.W.Frag) (t : Addr) : It :=
  ⟨fun i H => ∃ xs x, SqT K H t xs ∧ xs[i]? = some x,
    fun i H v H' => ∃ T x, v = .ref T ∧ H T = none ∧ H' = upd H T (.tup [.int (i : Nat), x]) ∧ ∀ xs, SqT K H t xs → xs[i]? = some x,
    fun i H => ∃ xs, SqT K H t xs ∧ xs.length ≤ i⟩
theorem turn_enumT {P : Program} {w : World} {K : PySem.W.Frag} {elts : List Expr} {kk : Nat} {tpos : Pos} (t e it : Addr) :
    Turn P w K (.Tuple elts kk tpos) (IteT K t) [e, it] e (fun i h => (∃ old, IsEnum h e it ((i : Nat) : Int) old) ∧ h.IsTupleIter it t i ∧ e ≠ it) where
  mem := by simp
  obj := by
    rintro i h ⟨⟨old, isE⟩, ⟨o, at_, _, dt⟩, _⟩ b hb
    rcases List.mem_cons.mp hb with rfl | hb
    · exact ⟨_, isE, fun v z => nomatch z⟩
    · rw [List.mem_singleton.mp hb]
      exact ⟨o, at_, fun v z => by rw [dt] at z; cases z⟩
  keep := by
    rintro i h h' ⟨⟨old, isE⟩, isI, ne⟩ k
    exact ⟨⟨old, k e (by simp) _ isE⟩, isI.at fun o z => k it (by simp) o z, ne⟩
  item := by
    intro X eP ew eK calm i pins s σ H E I fresh tn go
    subst eP ew eK
    obtain ⟨⟨old, isE⟩, isI, ne⟩ := tn
    obtain ⟨xs, x, sq, atI⟩ := go
    obtain ⟨its, vals, tup, few⟩ := I.tuple sq
    obtain ⟨u, atU, ru⟩ := vals.get atI
    have eLt : e < s.heap.objs.size := Heap.lt_size isE
    have iLt : it < s.heap.objs.size := by
      obtain ⟨_, z, _⟩ := isI
      exact Heap.lt_size z
    have netI : t ≠ it := by
      rintro rfl
      obtain ⟨o1, z1, c1, _⟩ := isI
      obtain ⟨o2, z2, c2, _⟩ := id tup
      rw [z1] at z2
      cases z2
      rw [c1] at c2
      exact absurd c2 (by decide)
    have netE : e ≠ t := by
      rintro rfl
      obtain ⟨o2, z2, c2, _⟩ := id tup
      rw [isE] at z2
      cases z2
      exact absurd (show Value.type "enumerate" = Value.type "tuple" from c2) (by decide)
    have D := Draws.tuple (prog := X.prog) (w := X.w) (A := X.A.in1) (I.ok.hd calm) it t netI its.toArray
    have lt : i < its.toArray.size := by
      rw [List.size_toArray]
      exact (List.getElem?_eq_some_iff.mp atU).1
    refine wpAny_pyNext_enum_itemD D isE ⟨isI, tup⟩ lt ne (by simp [ne, netE]) fun y h' tk hy out st' atT sz keep => ?_
    have eu : y = u := by
      have z : its[i]? = some y := by simpa using hy
      rw [atU] at z
      exact (Option.some.inj z).symm
    subst eu
    refine ⟨_, rfl, wpAny_letOwnedTupleGo_enum (s := { s with heap := h', toks := tk + 1 }) out fun h2 isE2 sb => ?_⟩
    have atT2 : h2.get? s.heap.objs.size = some { cls := .type "tuple", data := .seq #[.int i tk, y] } := (sb.2 _ (Nat.ne_of_gt eLt)).trans atT
    have new : ObjOk X.prog X.w (upd H s.heap.objs.size (.tup [.int (i : Nat), x])) h2 s.heap.objs.size (.tup [.int (i : Nat), x]) :=
      ⟨Nat.le_trans (by decide : 2 ≤ 100) (by rw [sizeLine_eq]; decide), [.int i tk, y], .cons ⟨_, rfl⟩ (.cons ru .nil), ⟨_, atT2, rfl, _, rfl⟩⟩
    have I2 : Inv X pins σ (upd H s.heap.objs.size (.tup [.int (i : Nat), x])) { s with heap := h2, toks := tk + 1 } :=
      I.turnedNew (ch := [e, it]) (fun b ob nb z => (sb.2 b (fun y => nb (by simp [y]))).trans (keep b ob (fun y => nb (by simp [y])) (fun y => nb (by simp [y])) z)) fresh (Nat.le_refl _) new
    refine ⟨.ref s.heap.objs.size, _, I2, rfl, ⟨_, x, rfl, I.hok.fresh (Nat.le_refl _), rfl, fun ys sy => by rw [I.tuple_inj sy sq]; exact atI⟩, ⟨⟨y, ?_⟩, st'.1.at fun o z => (sb.2 it (Ne.symm ne)).trans z, ne⟩, fun b hb => ?_⟩
    · rw [show ((i + 1 : Nat) : Int) = (i : Int) + 1 by omega]
      exact isE2
    · have bLt : b < s.heap.objs.size := by
        rcases List.mem_cons.mp hb with rfl | hb'
        · exact eLt
        · rw [List.mem_singleton.mp hb']; exact iLt
      rw [upd_ne (Nat.ne_of_lt bLt)]
      exact (fresh b hb).1
  done := by
    intro X eP ew eK calm i pins s σ H E I fresh tn stop
    subst eP ew eK
    obtain ⟨⟨old, isE⟩, isI, ne⟩ := tn
    obtain ⟨xs, sq, le⟩ := stop
    obtain ⟨its, vals, tup, few⟩ := I.tuple sq
    have len := vals.length
    obtain ⟨f0, f1, f2, f3, f4, f5⟩ := fresh it (by simp)
    have D : Draws X.prog X.w X.A.in1 it [it, t] i (fun _ _ => False) (fun j h => j = i ∧ h.IsTupleIter it t i ∧ h.IsTuple t its.toArray) := {
      live := fun j h st => let ⟨_, ⟨o, z, _⟩, _⟩ := st; ⟨o, z⟩
      frame := fun j h h' st k => ⟨st.1, st.2.1.at fun o z => k it (by simp) o z, st.2.2.at fun o z => k t (by simp) o z⟩
      item := fun j s Q E hj st hQ => absurd st.1 (Nat.ne_of_lt hj)
      done := fun s Q E st hE => wpAny_nextOf_tuple_end (I.ok.hd calm) st.2.1 st.2.2 (by simp; omega) hE }
    exact wpAny_pyNext_enum_endD D isE ⟨rfl, isI, tup⟩ fun h' ext => ⟨rfl, I.turned (t' := s.toks) (fun b o nb z => ext b o nb z) f0 f1 f3 f4 f5⟩
  self := fun A i s Q E st q => let ⟨⟨_, isE⟩, _⟩ := st; wpAny_pyIter_enum isE q
/-- enumerate(x), x a list or a tuple -/
theorem pi_enumA {X : Cx} {e : Expr} {ta : TA} {p pos tpos : Pos} {elts : List Expr} {kk : Nat} (hg : Gl X "enumerate") (hm : X.mg "enumerate" = none) (ha : PA X [e] ta) (hs : starEach [e] X.env = (false, eval e X.env) :: starEach [] X.env) :
    PI X (.Tuple elts kk tpos) (.Call (.Name "enumerate" p) [e] [] pos) (fun σ H R => ta σ H fun vs H1 => ∃ a, vs = [.ref a] ∧ (((∃ xs, SqL X.K H1 a xs) ∧ R (Ite X.K a) H1) ∨ ((∃ xs, SqT X.K H1 a xs) ∧ R (IteT X.K a) H1))) := by
  constructor
  intro pins s σ H R I h
  refine Call_ (ld_blt I hg hm boot_enumerate ?_)
  refine PyProof.Rows.callWith_type1 (thn (ha.run pos pins s σ H _ I h) fun us s1 ⟨vs, H1, I1, r1, a, ev, q⟩ => ?_) hs rfl
  · subst ev
    obtain ⟨u, rfl, ru⟩ := r1.one
    cases (show u = Value.ref a from ru)
    have new2 : ∀ b, b ∈ [s1.heap.objs.size + 1, s1.heap.objs.size] → FpOk X pins H1 b := fun b hb => by
      have le : s1.heap.objs.size ≤ b := by
        rcases List.mem_cons.mp hb with rfl | hb'
        · exact Nat.le_add_right _ _
        · rw [List.mem_singleton.mp hb']
          exact Nat.le_refl _
      exact I1.fpOk le (I1.hok.fresh le)
    rcases q with ⟨⟨xs, sq⟩, q⟩ | ⟨⟨xs, sq⟩, q⟩
    · obtain ⟨its, vals, isL, few⟩ := I1.list sq
      refine call_enumerate_list isL.isList fun h' isE isI sz keep => wpAny_pyIter_enum isE ?_
      exact ⟨s1.heap.objs.size + 1, [s1.heap.objs.size + 1, s1.heap.objs.size], _, _, H1, rfl, I1.kept (t' := s1.toks) keep, turn_enum a (s1.heap.objs.size + 1) s1.heap.objs.size, ⟨⟨.none, isE⟩, isI, Nat.succ_ne_self _⟩, new2, q⟩
    · obtain ⟨its, vals, tup, few⟩ := I1.tuple sq
      refine enum_start (begins_tuple a its.toArray) tup fun h' isE at_ keep => wpAny_pyIter_enum isE ?_
      exact ⟨s1.heap.objs.size + 1, [s1.heap.objs.size + 1, s1.heap.objs.size], _, _, H1, rfl, I1.kept (t' := s1.toks) keep, turn_enumT a (s1.heap.objs.size + 1) s1.heap.objs.size, ⟨⟨.none, isE⟩, ⟨_, at_, rfl, rfl⟩, Nat.succ_ne_self _⟩, new2, q⟩
end DL

set_option maxHeartbeats 4000000
/-! DL7: tests, argument lists, calls, built-ins, isinstance, a scope that leaves the names as they are. -/
namespace DL
open PySem PySem.Spec PyProof.Rows L2

/-- an expression of a plain shape -/
def plainX : Expr → Bool
  | .Starred .. => false
  | .Slice .. => false
  | .Set .. => false
  | .SetComp .. => false
  | .DictComp .. => false
  | _ => true
theorem star_cons {e : Expr} (h : plainX e = true) (es : List Expr) (env : Env) : starEach (e :: es) env = (false, eval e env) :: starEach es env := by
  cases e <;> first | rfl | exact absurd h Bool.false_ne_true
theorem star_plain : ∀ {es : List Expr}, es.all plainX = true → ∀ (pos : Pos) (env : Env), (backTo pos (starEach es env)).any (·.1) = false
  | [], _, _, _ => rfl
  | e :: es, h, pos, env => by
    rw [List.all_cons, Bool.and_eq_true] at h
    rw [star_cons h.1]
    show (false || (backTo pos (starEach es env)).any (·.1)) = false
    rw [star_plain h.2 pos env]; rfl
theorem set_plain' {op : CmpOp} {e : Expr} (h : plainX e = true) : behindInMarks op e = false := by
  cases e <;> first | rfl | exact absurd h Bool.false_ne_true
theorem plainIx_of {e : Expr} (h : plainX e = true) : PlainIx e := by
  intro o i
  cases e <;> first | rfl | exact absurd h Bool.false_ne_true

section
variable {X : Cx} {cl : Cls0} {a b c ex : Expr} {pos : Pos}
theorem isEmpty_zip {α β : Type} {ks : List α} {vs : List β} (l : ks.length = vs.length) : (!ks.isEmpty) = !(ks.zip vs).isEmpty := by
  cases ks with
  | nil => rfl
  | cons k ks => cases vs with
    | nil => cases l
    | cons v vs => rfl
/-! ### tests -/
theorem xt_tv {ea : Ev DB} (ha : PE X a (tE cl ea)) (he : ∀ whole, isTrue a X.env whole = (do let v ← whole; standAt a.pos; holding [v] (truthy v))) :
    PT X a (tT cl fun f n k => ea f n fun x n1 => ∃ c, truD x.1 = some c ∧ k c n1) :=
  (pt_truth ha he).imp fun σ H Q ⟨P, G0, H0, W, n, f, G, K, hc, S, e, h⟩ => TR.one hc S e fun x n1 ⟨c, hx, kx⟩ v G1 H1 S1 L1 r1 => by
    refine ⟨c, ?_, h c n1 kx c G1 H1 S1 L1 rfl⟩
    obtain ⟨x, bx⟩ := x
    have r1' : RdD P (rg bx G1 H0) v x := r1
    have hx : truD x = some c := hx
    cases r1' with
    | non => cases hx; rfl
    | bl b => cases hx; rfl
    | int i => cases hx; rfl
    | lst hp r =>
      cases hx
      refine .inl ⟨_, SqL.of (S1.bs.gh _ _ (rg_sub _ _ hp)), ?_⟩
      cases r <;> rfl
    | tup hp r =>
      cases hx
      refine .inr (.inl ⟨_, SqT.of (S1.bs.gh _ _ (rg_sub _ _ hp)), ?_⟩)
      cases r <;> rfl
    | dic hp l r =>
      cases hx
      refine .inr (.inr ⟨_, S1.bs.gh _ _ (rg_sub _ _ hp), ?_⟩)
      exact isEmpty_zip l
    | _ => cases hx
theorem xt_not {ec : Ev Bool} (h : PT X a (tT cl ec)) : PT X (.UnaryOp .Not a pos) (tT cl fun f n k => ec f n fun c n1 => k (!c) n1) :=
  (pt_not h).imp fun σ H Q ⟨P, G0, H0, W, n, f, G, K, hc, S, e, h⟩ => TR.one hc S e fun t n1 hx v G1 H1 S1 L1 r1 => by
    cases (show v = t from r1)
    exact h _ _ hx _ G1 H1 S1 L1 rfl
theorem pw_true {vs : List Expr} {Q : Prop} : True := trivial
theorem xw_and1 {ec : Ev Bool} (h : PT X a (tT cl ec)) : PW X (.BoolOp .And [a] pos) (tT cl fun f n k => ec f n fun c n1 => if c = true then k true n1 else k false n1) :=
  (pw_and1 h).imp fun σ H Q ⟨P, G0, H0, W, n, f, G, K, hc, S, e, h⟩ => TR.one hc S e fun t n1 hx v G1 H1 S1 L1 r1 => by
    cases (show v = t from r1)
    cases t with
    | true => exact h _ _ (by simpa using hx) _ G1 H1 S1 L1 rfl
    | false => exact h _ _ (by simpa using hx) _ G1 H1 S1 L1 rfl
theorem xw_or1 {ec : Ev Bool} (h : PT X a (tT cl ec)) : PW X (.BoolOp .Or [a] pos) (tT cl fun f n k => ec f n fun c n1 => if c = true then k true n1 else k false n1) :=
  (pw_or1 h).imp fun σ H Q ⟨P, G0, H0, W, n, f, G, K, hc, S, e, h⟩ => TR.one hc S e fun t n1 hx v G1 H1 S1 L1 r1 => by
    cases (show v = t from r1)
    cases t with
    | true => exact h _ _ (by simpa using hx) _ G1 H1 S1 L1 rfl
    | false => exact h _ _ (by simpa using hx) _ G1 H1 S1 L1 rfl
theorem xw_and {ec ed : Ev Bool} {es : List Expr} (h : PT X a (tT cl ec)) (h2 : PW X (.BoolOp .And (b :: es) pos) (tT cl ed)) : PW X (.BoolOp .And (a :: b :: es) pos) (tT cl fun f n k => ec f n fun c n1 => if c = true then ed f n1 k else k false n1) :=
  (pw_and h h2).imp fun σ H Q ⟨P, G0, H0, W, n, f, G, K, hc, S, e, h⟩ => TR.one hc S e fun t n1 hx v G1 H1 S1 L1 r1 => by
    cases (show v = t from r1)
    cases t with
    | true => exact iteT ⟨P, G0, H0, W, n1, f, G1, K, hc, S1, by simpa using hx, fun r n' hr v G' H' S' L' q => h r n' hr v G' H' S' (Le.trans S.bs S1.bs.st L1 L') q⟩
    | false => exact iteF (h _ _ (by simpa using hx) _ G1 H1 S1 L1 rfl)
theorem xw_or {ec ed : Ev Bool} {es : List Expr} (h : PT X a (tT cl ec)) (h2 : PW X (.BoolOp .Or (b :: es) pos) (tT cl ed)) : PW X (.BoolOp .Or (a :: b :: es) pos) (tT cl fun f n k => ec f n fun c n1 => if c = true then k true n1 else ed f n1 k) :=
  (pw_or h h2).imp fun σ H Q ⟨P, G0, H0, W, n, f, G, K, hc, S, e, h⟩ => TR.one hc S e fun t n1 hx v G1 H1 S1 L1 r1 => by
    cases (show v = t from r1)
    cases t with
    | false => exact iteF ⟨P, G0, H0, W, n1, f, G1, K, hc, S1, by simpa using hx, fun r n' hr v G' H' S' L' q => h r n' hr v G' H' S' (Le.trans S.bs S1.bs.st L1 L') q⟩
    | true => exact iteT (h _ _ (by simpa using hx) _ G1 H1 S1 L1 rfl)
/-- and, or as values -/
theorem xe_and {ea eb : Ev DB} {es : List Expr} (ha : PE X a (tE cl ea)) (hb : PE X (.BoolOp .And (b :: es) pos) (tE cl eb)) :
    PE X (.BoolOp .And (a :: b :: es) pos) (tE cl fun f n k => ea f n fun x n1 => match x.1 with | .bl c => if c = true then eb f n1 k else k (.bl false, true) n1 | _ => False) :=
  (pe_and ha hb).imp fun σ H Q ⟨P, G0, H0, W, n, f, G, K, hc, S, e, h⟩ => TR.one hc S e fun x n1 hx v G1 H1 S1 L1 r1 => by
    obtain ⟨x, bx⟩ := x
    cases x <;> first
      | exact (show False from hx).elim
      | (rename_i t
         cases bl_of r1
         refine ⟨_, rfl, ?_⟩
         cases t with
         | true => exact iteT ⟨P, G0, H0, W, n1, f, G1, K, hc, S1, by simpa using hx, fun r n' hr v G' H' S' L' q => h r n' hr v G' H' S' (Le.trans S.bs S1.bs.st L1 L') q⟩
         | false => exact iteF (h (.bl false, true) _ (by simpa using hx) _ G1 H1 S1 L1 (.bl _)))
theorem xe_or {ea eb : Ev DB} {es : List Expr} (ha : PE X a (tE cl ea)) (hb : PE X (.BoolOp .Or (b :: es) pos) (tE cl eb)) :
    PE X (.BoolOp .Or (a :: b :: es) pos) (tE cl fun f n k => ea f n fun x n1 => match x.1 with | .bl c => if c = true then k (.bl true, true) n1 else eb f n1 k | _ => False) :=
  (pe_or ha hb).imp fun σ H Q ⟨P, G0, H0, W, n, f, G, K, hc, S, e, h⟩ => TR.one hc S e fun x n1 hx v G1 H1 S1 L1 r1 => by
    obtain ⟨x, bx⟩ := x
    cases x <;> first
      | exact (show False from hx).elim
      | (rename_i t
         cases bl_of r1
         refine ⟨_, rfl, ?_⟩
         cases t with
         | false => exact iteF ⟨P, G0, H0, W, n1, f, G1, K, hc, S1, by simpa using hx, fun r n' hr v G' H' S' L' q => h r n' hr v G' H' S' (Le.trans S.bs S1.bs.st L1 L') q⟩
         | true => exact iteT (h (.bl true, true) _ (by simpa using hx) _ G1 H1 S1 L1 (.bl _)))

/-! ### argument lists, displays -/
abbrev EvL := Fr → Nat → (List D → Bool → Nat → Prop) → Prop
theorem xa_nil : PA X [] (tA cl fun _ n k => k [] true n) :=
  pa_nil.imp fun σ H Q ⟨P, G0, H0, W, n, f, G, K, hc, S, e, h⟩ => h _ _ e [] G H S Le.rfl' .nil
theorem xa_cons {ea : Ev DB} {es : EvL} {xs : List Expr} (ha : PE X a (tE cl ea)) (hr : PA X xs (tA cl es)) (hp : plainX a = true) :
    PA X (a :: xs) (tA cl fun f n k => ea f n fun x n1 => es f n1 fun ys b n2 => k (x.1 :: ys) (x.2 && b) n2) :=
  (pa_cons ha hr (star_cons hp xs X.env)).imp fun σ H Q ⟨P, G0, H0, W, n, f, G, K, hc, S, e, h⟩ =>
    TR.two (K := fun x y n2 => K (x.1 :: y.1, x.2 && y.2) n2) kE kA hc S e fun x y n2 hk v u G2 H2 S2 L2 r1 r2 =>
      h _ _ hk (v :: u) G2 H2 S2 L2 (RdL.cons (RdD.mono (rg_le fun z => (Bool.and_eq_true_iff.mp z).1) (show RdD P (rg x.2 G2 H0) v x.1 from r1)) (RdL.mono (rg_le fun z => (Bool.and_eq_true_iff.mp z).2) (show RdL P (rg y.2 G2 H0) u y.1 from r2)))
/-- something new that is frozen at once -/
theorem fin_new {P : Pt} {G0 H0 G H G1 H1 : Hp} {W : Nat → Addr → Prop} {n n1 : Nat} {σ : L2.St} {f : Fr} {p : Addr} {o : HO} (S : SR P G0 H0 W n σ f G H) (S1 : SR P G0 H0 W n1 σ f G1 H1) (L1 : Le P G H G1 H1) (hp : H1 p = none) :
    SR P G0 H0 W n1 σ f (upd G1 p o) (upd H1 p o) ∧ Le P G H (upd G1 p o) (upd H1 p o) ∧ Sub G1 (upd G1 p o) ∧ ∀ b, rg b (upd G1 p o) H0 p = some o :=
  ⟨S1.new hp, Le.trans S.bs S1.bs.st L1 (Le.new hp S1.bs), (Le.new hp S1.bs).g, fun b => rg_at upd_same (S1.bs.h0n hp)⟩
theorem xe_tup {es : EvL} {xs : List Expr} {k1 : Nat} (h : PA X xs (tA cl es)) : PE X (.Tuple xs k1 pos) (tE cl fun f n k => es f n fun ys b n1 => ys.length ≤ sizeLine ∧ k (.tup ys, b) n1) :=
  (pe_tup h).imp fun σ H Q ⟨P, G0, H0, W, n, f, G, K, hc, S, e, h⟩ => TR.one (K := fun (x : List D × Bool) n1 => x.1.length ≤ sizeLine ∧ K (.tup x.1, x.2) n1) hc S e fun x n1 ⟨hl, hx⟩ vs G1 H1 S1 L1 r1 => by
    have r1' : RdL P (rg x.2 G1 H0) vs x.1 := r1
    refine ⟨by rw [r1'.length]; exact hl, fun p hp => ?_⟩
    obtain ⟨a1, a2, a3, a4⟩ := fin_new (o := .tup vs) S S1 L1 hp
    exact h _ _ hx _ _ _ a1 a2 (.tup (a4 _) (r1'.mono (rg_mono a3)))
theorem xl_lit {es : EvL} {xs : List Expr} (h : PA X xs (tA cl es)) : PE X (.List xs pos) (tL cl fun f n k => es f n fun ys b n1 => ys.length ≤ sizeLine ∧ k ys b n1) :=
  (pe_lst h).imp fun σ H Q ⟨P, G0, H0, W, n, f, G, K, hc, S, e, h⟩ => TR.one (K := fun (x : List D × Bool) n1 => x.1.length ≤ sizeLine ∧ K x n1) hc S e fun x n1 ⟨hl, hx⟩ vs G1 H1 S1 L1 r1 => by
    have r1' : RdL P (rg x.2 G1 H0) vs x.1 := r1
    refine ⟨by rw [r1'.length]; exact hl, fun p hp => ?_⟩
    have g1 : G1 p = none := by
      cases q : G1 p with
      | none => rfl
      | some o => rw [S1.bs.gh _ _ q] at hp; cases hp
    exact h _ _ hx _ G1 _ (S1.newO hp) (Le.trans S.bs S1.bs.st L1 (Le.own hp)) ⟨p, vs, rfl, L1.none S.bs.st S1.bs.st hp, g1, upd_same, r1'⟩
/-- a new list, frozen -/
theorem xe_nl {el : EvL} (h : PE X ex (tL cl el)) : PE X ex (tE cl fun f n k => el f n fun xs b n1 => k (.lst xs, fls b xs) n1) :=
  h.imp fun σ H Q ⟨P, G0, H0, W, n, f, G, K, hc, S, e, h⟩ => ⟨P, G0, H0, W, n, f, G, fun x n1 => K (.lst x.1, fls x.2 x.1) n1, hc, S, e, fun x n1 hx v G1 H1 S1 L1 r1 => by
    obtain ⟨p, vs, rfl, hn, hg, hh, r⟩ := r1
    have e1 : upd H1 p (.lst vs) = H1 := by
      funext q; unfold upd; split
      · rename_i z; rw [z, hh]
      · rfl
    have g : Sub G1 (upd G1 p (.lst vs)) := fun a o q => by
      have : a ≠ p := fun z => by rw [z, hg] at q; cases q
      rw [upd_ne this]; exact q
    have L2 : Le P G H (upd G1 p (.lst vs)) H1 := ⟨fun a o q => g _ _ (L1.g a o q), fun a q => by
      have : a ≠ p := fun z => q (by rw [z]; exact hn)
      rw [upd_ne this]; exact L1.gx a q, L1.h⟩
    have gh : Sub (upd G1 p (.lst vs)) H1 := by
      have := S1.bs.gh.upd (p := p) (o := .lst vs)
      rw [e1] at this; exact this
    exact h _ _ hx _ _ H1 (S.le L2 gh S1.bs.st) L2 (.lst (rg_at upd_same (S.bs.h0n hn)) ((RdL.fls r).mono (rg_mono g)))⟩

/-! ### calls -/
/-- what a function promises, from what the evaluator does -/
def spF (cl : Cls0) (ev : List D → Nat → KE → Prop) (np : Nat) : Sp := fun vs H Q _ => ∃ (P : Pt) (G : Hp) (n : Nat) (ds : List D) (K : KE), P.cl = cl ∧ RdL P G vs ds ∧ ds.length = np ∧ Sub G H ∧ Stm n P H ∧ G P.s = none ∧ G P.l = none ∧ ev ds n K ∧
  ∀ r n', K r n' → ∀ v G' H', Le P G H G' H' → Sub G' H' → Stm n' P H' → RdD P (rg r.2 G' H) v r.1 → Q v H'
theorem spF_of {P : Pt} {G0 H0 G H : Hp} {W : Nat → Addr → Prop} {n : Nat} {σ : L2.St} {f : Fr} {ev : List D → Nat → KE → Prop} {np : Nat} {vs : List V} {ds : List D} {K : KE} {Q : VK} {E : XK} {b : Bool} (hc : P.cl = cl) (S : SR P G0 H0 W n σ f G H)
    (r : RdL P (rg b G H0) vs ds) (hl : ds.length = np) (e : ev ds n K) (h : ∀ r n', K r n' → ∀ v G' H', SR P G0 H0 W n' σ f G' H' → Le P G H G' H' → RdD P (rg r.2 G' H0) v r.1 → Q v H') : spF cl ev np vs H Q E :=
  ⟨P, G, n, ds, K, hc, r.mono rg_sub, hl, S.bs.gh, S.bs.st, S.bs.gs, S.bs.gl, e, fun r n' hr v G' H' L' gh st q => h r n' hr v G' H' (S.le L' gh st) L' (by
    refine q.mono fun a o z => ?_
    cases hb : r.2 with
    | false => rw [hb] at z; exact z
    | true =>
      rw [hb] at z
      have z' : (match H a with | none => G' a | some _ => none) = some o := z
      cases q2 : H a with
      | none =>
        rw [q2] at z'
        exact rg_at z' (S.bs.h0n q2)
      | some u => rw [q2] at z'; cases z')⟩
variable {k : Nat} {fa : Addr} {fd : FuncData} {ps : List Str} {x : Str} {p : Pos} {ev : List D → Nat → KE → Prop}
theorem xe_call {CX : CXT} {E : XK} {es : EvL} {xs : List Expr} (F : FnG X.prog X.w X.K X.mg X.base CX k fa ps fd (spF cl ev ps.length)) (gd : X.A.guards = some []) (hr : Room k X.A) (hg : Gl X x) (hm : X.mg x = some (.ref fa)) (hk : PySem.W.keepIn X.K (.ref fa) = true) (hb : Binds X.K fd ps []) (hx : Passes CX X E)
    (ha : PA X (a :: xs) (tA cl es)) (hp : (a :: xs).all plainX = true) (hdb : (x == ("__debug__" : Str)) = false) (np : ∀ ds n k, ev ds n k → ds.length = ps.length) :
    PE X (.Call (.Name x p) (a :: xs) [] pos) (tE cl fun f n k => es f n fun ds _ n1 => ev ds n1 k) := by
  have hp' : plainX a = true ∧ xs.all plainX = true := by rw [List.all_cons, Bool.and_eq_true] at hp; exact hp
  refine (pe_callG F gd hr hg hm hk hb hx ha hdb (star_cons hp'.1 xs X.env) (star_plain hp'.2 pos X.env)).imp fun σ H Q ⟨P, G0, H0, W, n, f, G, K, hc, S, e, h⟩ => TR.one (K := fun (x : List D × Bool) n1 => ev x.1 n1 K) hc S e fun y n1 hy vs G1 H1 S1 L1 r1 => ?_
  rw [List.append_nil]
  exact spF_of hc S1 r1 (np _ _ _ hy) hy fun r n' hr v G' H' S' L' q => h r n' hr v G' H' S' (Le.trans S.bs S1.bs.st L1 L') q
theorem xe_call0 {CX : CXT} {E : XK} (F : FnG X.prog X.w X.K X.mg X.base CX k fa ps fd (spF cl ev ps.length)) (gd : X.A.guards = some []) (hr : Room k X.A) (hg : Gl X x) (hm : X.mg x = some (.ref fa)) (hk : PySem.W.keepIn X.K (.ref fa) = true) (hb : Binds X.K fd ps []) (hx : Passes CX X E)
    (hdb : (x == ("__debug__" : Str)) = false) (np : ∀ ds n k, ev ds n k → ds.length = ps.length) : PE X (.Call (.Name x p) [] [] pos) (tE cl fun _ n k => ev [] n k) :=
  (pe_call0G F gd hr hg hm hk hb hx hdb).imp fun σ H Q ⟨P, G0, H0, W, n, f, G, K, hc, S, e, h⟩ => by
    show spF cl ev ps.length ([] ++ []) H Q E
    exact spF_of (b := false) hc S .nil (np _ _ _ e) e fun r n' hr v G' H' S' L' q => h r n' hr v G' H' S' L' q
/-- the stream's draw -/
def spDraw (cl : Cls0) : Sp := fun vs H Q _ => ∃ (P : Pt) (n : Nat) (m : Int), P.cl = cl ∧ vs = [.ref P.s, .int m] ∧ 0 < m ∧ m < 2 ^ 62 ∧ Stm (n + 1) P H ∧
  ∀ (d : Int) (H' : Hp), 0 ≤ d → d < m → (∀ a o, H a = some o → a ≠ P.s → a ≠ P.l → H' a = some o) → Stm n P H' → Q (.int d) H'
theorem xe_draw {CX : CXT} {E : XK} {ea eb : Ev DB} (F : FnOk X.prog X.w X.K X.mg X.base CX k fa fd ps (spDraw cl)) (hr : Room k X.A) (hg : Gl X x) (hm : X.mg x = some (.ref fa)) (hk : PySem.W.keepIn X.K (.ref fa) = true) (hb : Binds X.K fd ps []) (hx : Passes CX X E)
    (ha : PE X a (tE cl ea)) (hc : PE X c (tE cl eb)) (pa : plainX a = true) (pc : plainX c = true) (hdb : (x == ("__debug__" : Str)) = false) :
    PE X (.Call (.Name x p) [a, c] [] pos) (tE cl fun f n k => ea f n fun x n1 => eb f n1 fun y n2 => drawD x.1 y.1 n2 k) := by
  refine (pe_call F hr hg hm hk hb .nil hx (pa_cons ha (pa_cons hc pa_nil (star_cons pc [] X.env)) (star_cons pa [c] X.env)) hdb (star_cons pa [c] X.env) (star_plain (es := [c]) (by rw [List.all_cons, pc]; rfl) pos X.env)).imp fun σ H Q ⟨P, G0, H0, W, n, f, G, K, hcl, S, e, h⟩ =>
    TR.two kE kE hcl S e fun x y n2 hk v u G2 H2 S2 L2 r1 r2 => ?_
  obtain ⟨x, bx⟩ := x
  obtain ⟨y, by'⟩ := y
  cases x <;> cases y <;> cases n2 <;> first
    | exact (show False from hk).elim
    | (rename_i m n3
       obtain ⟨h1, h2, h3⟩ := hk
       have r1' : RdD P (rg bx G2 H0) v .strm := r1
       cases r1'
       cases int_of r2
       refine ⟨P, n3, m, hcl, rfl, h1, h2, S2.bs.st, fun d H' d0 d1 hh st => ?_⟩
       have L3 : Le P G2 H2 G2 H' := ⟨Sub.rfl', fun _ _ => .inl rfl, hh⟩
       have gh : Sub G2 H' := fun a o q => hh a o (S2.bs.gh a o q) (S2.gne q).1 (S2.gne q).2
       exact h _ _ (h3 d d0 d1) _ G2 H' (S2.le L3 gh st) (Le.trans S.bs S2.bs.st L2 L3) (.int d))

/-! ### a scope: all names frozen, the answer flat -/
def allG (P : Pt) (H : Hp) : Hp := fun a => if a = P.s ∨ a = P.l then none else H a
theorem allG_sub {P : Pt} {H : Hp} : Sub (allG P H) H := fun a o h => by
  unfold allG at h
  split at h
  · cases h
  · exact h
theorem allG_at {P : Pt} {H : Hp} {a : Addr} {o : HO} (h : H a = some o) (h1 : a ≠ P.s) (h2 : a ≠ P.l) : allG P H a = some o := by
  unfold allG
  rw [if_neg (fun z => z.elim h1 h2)]
  exact h
theorem viewR {P : Pt} {G0 H0 G H : Hp} {W : Nat → Addr → Prop} {n : Nat} {σ : L2.St} {f : Fr} (S : SR P G0 H0 W n σ f G H) : SR P (allG P H) H (fun _ _ => False) n σ (view f) (allG P H) H := by
  have sub : Sub G (allG P H) := fun a o q => allG_at (S.bs.gh a o q) (S.gne q).1 (S.gne q).2
  refine ⟨⟨allG_sub, Sub.rfl', fun _ _ => .inl rfl, fun a o h _ _ => h, S.bs.st, if_pos (.inl rfl), if_pos (.inr rfl)⟩, ⟨fun _ _ _ z => z.elim, fun _ _ z => z.elim, fun _ _ z => z.elim, fun _ _ z => z.elim, fun _ _ z => z.elim, fun _ _ z => z.elim⟩, by rw [S.len]; exact (List.length_map _).symm, fun i s e => ?_⟩
  unfold view at e
  rw [List.getElem?_map] at e
  obtain ⟨s0, e1, e2⟩ := Option.map_eq_some_iff.mp e
  subst e2
  have q := S.sl i s0 e1
  cases s0 with
  | no => trivial
  | o c ns xs b => trivial
  | v d b =>
    obtain ⟨v, ev, r⟩ := q
    have r2 := r.mono (G' := allG P H) (fun a o z => sub a o (rg_sub a o z))
    refine ⟨v, ev, ?_⟩
    cases hs : d.scal with
    | true => exact r2.scal hs
    | false => exact r2
  | l xs b =>
    obtain ⟨p, vs, ev, w, h, r⟩ := q
    exact ⟨.ref p, ev, .lst (allG_at h (S.wk.s i p w).1 (S.wk.s i p w).2) (r.mono fun a o z => sub a o (rg_sub a o z))⟩
  | k ks xs b =>
    obtain ⟨p, vs, ev, w, h, l, r⟩ := q
    exact ⟨.ref p, ev, .dic (allG_at h (S.wk.s i p w).1 (S.wk.s i p w).2) l (r.mono fun a o z => sub a o (rg_sub a o z))⟩
  | kt ks xs b =>
    obtain ⟨p, vs, ev, w, h, l, r⟩ := q
    exact ⟨.ref p, ev, .dit (allG_at h (S.wk.s i p w).1 (S.wk.s i p w).2) l (r.mono fun a o z => sub a o (rg_sub a o z))⟩
  | scr => trivial
  | sep d =>
    obtain ⟨v, Sg, ev, r, h, m⟩ := q
    refine ⟨v, ev, r.mono fun a o z => ?_⟩
    have ho := h a o z
    rcases m a o z with ⟨xs, rfl⟩ | w
    · exact allG_at ho (fun y => S.bs.st.nots xs (by rw [← y]; exact ho)) (fun y => S.bs.st.notl xs (by rw [← y]; exact ho))
    · exact allG_at ho (S.wk.s i a w).1 (S.wk.s i a w).2
theorem xe_sc {ea : Ev DB} (ha : PE X a (tE cl ea)) : PE X a (tE cl fun f n k => ea (view f) n fun x n1 => x.1.scal = true ∧ k (x.1, true) n1) :=
  ha.imp fun σ H Q ⟨P, G0, H0, W, n, f, G, K, hc, S, e, h⟩ => ⟨P, allG P H, H, fun _ _ => False, n, view f, allG P H, _, hc, viewR S, e, fun x n1 ⟨hs, hx⟩ v G1 H1 S1 L1 r1 => by
    have L2 : Le P G H G H1 := ⟨Sub.rfl', fun _ _ => .inl rfl, L1.h⟩
    have gh : Sub G H1 := fun a o q => L1.h a o (S.bs.gh a o q) (S.gne q).1 (S.gne q).2
    exact h _ _ hx v G H1 (S.le L2 gh S1.bs.st) L2 (RdD.scal hs r1)⟩
end
end DL

set_option maxHeartbeats 4000000
/-! DLM: the least of a list of pairs. -/
namespace DL
open PySem PySem.Spec PyProof.Rows L2

def rMinD (K : PySem.W.Frag) : List V → Hp → VK → Prop := fun vs H Q => ∃ (a : Addr) (ys : List V) (d : PyData) (ds : List PyData), vs = [V.ref a] ∧ SqL K H a ys ∧ DpAll K H ys (d :: ds) ∧ PySem.W.AlikeAll (d :: ds) ∧ PyData.depthAll (d :: ds) ≤ 60 ∧ PyData.canLayAll0 (d :: ds) = true ∧
  ∀ (i : Nat) y, ys[i]? = some y → (d :: ds)[i]? = some (PySem.W.minD d ds) → Q y H
theorem lay_at : ∀ {ds : List PyData} {i : Nat} {d : PyData}, PyData.canLayAll0 ds = true → ds[i]? = some d → d.canLay0 = true
  | [], _, _, _, h => by simp at h
  | d :: ds, 0, e, hl, h => by
    unfold PyData.canLayAll0 at hl
    have := Option.some.inj (show some d = some e from h)
    subst this
    exact (Bool.and_eq_true_iff.mp hl).1
  | d :: ds, i + 1, e, hl, h => by
    unfold PyData.canLayAll0 at hl
    exact lay_at (i := i) (Bool.and_eq_true_iff.mp hl).2 (by simpa using h)
theorem cr_minD {X : Cx} (hc : X.calm = true) (hu : X.A.units + 64 < cLine) : CallR X (.builtin "min") (rMinD X.K) := by
  intro pins s σ H vs us Q I r h
  obtain ⟨a, ys, d, ds, rfl, hs, hd, hal, hdep, hlay, q⟩ := h
  obtain ⟨its, rv, hl, _⟩ := I.list hs
  rw [Vals.ref1 r]
  obtain ⟨as, rs⟩ := Dp.readsAll I (d :: ds) _ its hd rv
  have hn := rv.length
  refine PySem.W.min_list_data (I.ok.hd hc) hl.isList (vs := its.toArray) (show ReadsAll s.heap its.toArray.toList (d :: ds) as from rs) hal (by omega) fun i v h' tk bs hi rr hk => ?_
  have hi' : its[i]? = some v := by simpa using hi
  have hlt : i < its.length := (List.getElem?_eq_some_iff.mp hi').1
  have hy : ys[i]? = some (ys[i]'(by omega)) := List.getElem?_eq_getElem (by omega)
  obtain ⟨u, hu2, ru⟩ := rv.get hy
  rw [hi'] at hu2
  cases hu2
  obtain ⟨cs, r1, r2, r3⟩ := PySem.W.readsAll_at rs i v hi'
  have hz : (d :: ds)[i]? = some ((d :: ds).getD i .none) := by
    rw [List.getD_eq_getElem?_getD, List.getElem?_eq_getElem r2]; rfl
  have eq := SeqAt.Reads.unique _ _ v cs bs (lay_at hlay hz) (PySem.W.reads_keeps hk r1) rr
  rw [eq] at hz
  exact ⟨_, H, I.kept hk, ru, q i _ hy hz⟩
/-! ### pairs -/
def pD (p : Int × Int) : PyData := .tuple [.int p.1, .int p.2]
theorem pairs_eq : ∀ {xs : List D} {ps : List (Int × Int)}, pairsOf xs = some ps → xs = ps.map pairD
  | [], ps, h => by
    unfold pairsOf at h
    cases h; rfl
  | x :: xs, ps, h => by
    unfold pairsOf at h
    split at h
    · rename_i e
      cases e
    · rename_i e
      injection e with e1 e2
      subst e1 e2
      obtain ⟨qs, h1, h2⟩ := Option.map_eq_some_iff.mp h
      subst h2
      rw [List.map_cons, ← pairs_eq h1]; rfl
    · cases h
theorem pairs_toPs : ∀ ps : List (Int × Int), D.toPs (ps.map pairD) = some (ps.map pD)
  | [] => rfl
  | p :: ps => by
    rw [List.map_cons, List.map_cons]
    unfold D.toPs
    rw [pairs_toPs ps]
    rfl
theorem pairs_least (p : Int × Int) (ps : List (Int × Int)) : PySem.W.minD (pD p) (ps.map pD) = pD (leastP p ps) := PySem.W.minD_map (α := Int × Int) p ps
theorem pairs_alike (p : Int × Int) (ps : List (Int × Int)) : PySem.W.AlikeAll (pD p :: ps.map pD) := PySem.W.alikeAll_datum (α := Int × Int) (p :: ps)
theorem pairs_depth : ∀ ps : List (Int × Int), PyData.depthAll (ps.map pD) ≤ 60 := by
  have : ∀ ps : List (Int × Int), PyData.depthAll (ps.map pD) ≤ 1 := by
    intro ps
    induction ps with
    | nil => simp [PyData.depthAll]
    | cons p ps ih =>
      rw [List.map_cons]
      unfold PyData.depthAll
      have : (pD p).depth ≤ 1 := by simp [pD, PyData.depth, PyData.depthAll]
      omega
  intro ps
  have := this ps
  omega
theorem pairs_lay : ∀ ps : List (Int × Int), PyData.canLayAll0 (ps.map pD) = true
  | [] => by simp [PyData.canLayAll0]
  | p :: ps => by
    rw [List.map_cons]
    unfold PyData.canLayAll0
    rw [pairs_lay ps, Bool.and_true]
    simp [pD, PyData.canLay0, PyData.canLayAll0]
theorem pairs_at {qs : List (Int × Int)} {i : Nat} {p : Int × Int} (h : (qs.map pD)[i]? = some (pD p)) : qs[i]? = some p := by
  rw [List.getElem?_map] at h
  obtain ⟨q, h1, h2⟩ := Option.map_eq_some_iff.mp h
  unfold pD at h2
  simp only [PyData.tuple.injEq, List.cons.injEq, PyData.int.injEq, and_true] at h2
  rw [h1, show q = p from Prod.ext h2.1 h2.2]
end DL

set_option maxHeartbeats 4000000
/-! DL8: built-ins, isinstance, new lists. -/
namespace DL
open PySem PySem.Spec PyProof.Rows L2

section
variable {X : Cx} {cl : Cls0} {a b c ex : Expr} {pos p : Pos} {x : Str}
/-- what a one-place built-in's rule must do with the datum -/
def OneOk (cl : Cls0) (r : List V → Hp → VK → Prop) (sem : DB → (DB → Prop) → Prop) : Prop := ∀ (P : Pt) (G0 H0 G H H1 : Hp) (W : Nat → Addr → Prop) (n : Nat) (σ : L2.St) (f : Fr) (v : V) (x : DB) (k : DB → Prop) (Q : VK),
  SR P G0 H0 W n σ f G H → relO P H1 H0 G H v x → sem x k → (∀ d w G' H', k d → SR P G0 H0 W n σ f G' H' → Le P G H G' H' → RdD P (rg d.2 G' H0) w d.1 → Q w H') → r [v] H Q
theorem xe_B {id : String} {r : List V → Hp → VK → Prop} {sem : DB → (DB → Prop) → Prop} {ea : Ev DB} (hc : CallR X (.builtin id) r) (hg : Gl X x) (hm : X.mg x = none) (hv : bootBuiltins x = some (.builtin id)) (ha : PE X a (tO cl ea)) (pa : plainX a = true)
    (hn : x ≠ "__name__") (hdb : (x == ("__debug__" : Str)) = false) (ok : OneOk cl r sem) : PE X (.Call (.Name x p) [a] [] pos) (tE cl fun f n k => ea f n fun y n1 => sem y fun d => k d n1) :=
  (pe_callB hc hg hm hv (pa_cons ha pa_nil (star_cons pa [] X.env)) hn hdb (star_cons pa [] X.env) rfl).imp fun σ H Q ⟨P, G0, H0, W, n, f, G, K, hcl, S, e, h⟩ => TR.one hcl S e fun y n1 hy v G1 H1 S1 L1 r1 =>
    ok P G0 H0 G1 H1 H W n1 σ f v y _ Q S1 r1 hy fun d w G' H' kd S' L' q => h _ _ kd w G' H' S' (Le.trans S.bs S1.bs.st L1 L') q
theorem xe_Ty {id : String} {r : List V → Hp → VK → Prop} {sem : DB → (DB → Prop) → Prop} {ea : Ev DB} (hc : CallR X (.type id) r) (hg : Gl X x) (hm : X.mg x = none) (hv : bootBuiltins x = some (.type id)) (ha : PE X a (tO cl ea)) (pa : plainX a = true)
    (hn : x ≠ "__name__") (hdb : (x == ("__debug__" : Str)) = false) (ok : OneOk cl r sem) : PE X (.Call (.Name x p) [a] [] pos) (tE cl fun f n k => ea f n fun y n1 => sem y fun d => k d n1) :=
  (pe_callTy hc hg hm hv (pa_cons ha pa_nil (star_cons pa [] X.env)) hn hdb (star_cons pa [] X.env) rfl).imp fun σ H Q ⟨P, G0, H0, W, n, f, G, K, hcl, S, e, h⟩ => TR.one hcl S e fun y n1 hy v G1 H1 S1 L1 r1 =>
    ok P G0 H0 G1 H1 H W n1 σ f v y _ Q S1 r1 hy fun d w G' H' kd S' L' q => h _ _ kd w G' H' S' (Le.trans S.bs S1.bs.st L1 L') q
theorem ints_ofD {P : Pt} {G : Hp} : ∀ {vs : List V} {xs : List D} {ns : List Int}, RdL P G vs xs → intsOf xs = some ns → vs = ns.map V.int
  | _, _, _, .nil, e => by cases e; rfl
  | _, _, ns, .cons (d := d) (ds := ds) r rs, e => by
    cases d with
    | int i =>
      have e' : (intsOf ds).map (i :: ·) = some ns := e
      obtain ⟨ms, e1, e2⟩ := Option.map_eq_some_iff.mp e'
      subst e2
      rw [int_of r, ints_ofD rs e1, List.map_cons]
    | _ => cases e
theorem bls_ofD {P : Pt} {G : Hp} : ∀ {vs : List V} {xs : List D} {ns : List Bool}, RdL P G vs xs → blsOf xs = some ns → vs = ns.map V.bl
  | _, _, _, .nil, e => by cases e; rfl
  | _, _, ns, .cons (d := d) (ds := ds) r rs, e => by
    cases d with
    | bl i =>
      have e' : (blsOf ds).map (i :: ·) = some ns := e
      obtain ⟨ms, e1, e2⟩ := Option.map_eq_some_iff.mp e'
      subst e2
      rw [bl_of r, bls_ofD rs e1, List.map_cons]
    | _ => cases e
theorem bi_rule {b : Bi} {ea : Ev DB} (hc : X.calm = true) (gd : X.A.guards = some []) (hu : X.A.units + 64 < cLine) (hg : Gl X b.name) (hm : X.mg b.name = none) (ha : PE X a (tO cl ea)) (pa : plainX a = true) :
    PE X (.Call (.Name b.name p) [a] [] pos) (tE cl fun f n k => ea f n fun y n1 => biD b y fun d => k d n1) := by
  cases b with
  | len =>
    refine xe_B (call_len.or (call_lenD.or call_len_dT)) hg hm PySem.boot_len ha pa (by decide) (by decide) fun P G0 H0 G H H1 W n σ f v x k Q S r hk q => ?_
    obtain ⟨x, bx⟩ := x
    cases x with
    | lst xs => obtain ⟨pp, vs, rfl, _, _, h, r⟩ := r; exact .inl ⟨_, _, rfl, .inl ⟨_, SqL.of h, rfl⟩, q _ _ G H hk S Le.rfl' (by rw [r.length]; exact .int _)⟩
    | tup xs =>
      have r' : RdD P (rg bx G H0) v (.tup xs) := r
      cases r' with
      | tup h r => exact .inl ⟨_, _, rfl, .inr ⟨_, SqT.of (S.bs.gh _ _ (rg_sub _ _ h)), rfl⟩, q _ _ G H hk S Le.rfl' (by rw [r.length]; exact .int _)⟩
    | str z =>
      cases str_of (P := P) (G := rg bx G H0) r
      exact .inl ⟨_, _, rfl, ⟨hk.1, rfl⟩, q _ _ G H hk.2 S Le.rfl' (.int _)⟩
    | dic ks xs =>
      obtain ⟨pp, vs, rfl, h, l, r⟩ := r
      refine .inr (.inl ⟨pp, _, rfl, h, q _ _ G H hk S Le.rfl' ?_⟩)
      have : (ks.zip vs).length = ks.length := by rw [List.length_zip, l, Nat.min_self]
      rw [this]; exact .int _
    | dit ks xs =>
      obtain ⟨pp, vs, rfl, h, l, r⟩ := r
      refine .inr (.inr ⟨pp, _, rfl, h, q _ _ G H hk S Le.rfl' ?_⟩)
      have : (ks.zip vs).length = ks.length := by rw [List.length_zip, l, Nat.min_self]
      rw [this]; exact .int _
    | _ => exact (show False from hk).elim
  | abs =>
    refine xe_B call_abs hg hm PyProof.Rows.boot_abs ha pa (by decide) (by decide) fun P G0 H0 G H H1 W n σ f v x k Q S r hk q => ?_
    obtain ⟨x, bx⟩ := x
    cases x <;> first
      | exact (show False from hk).elim
      | (cases int_of (P := P) (G := rg bx G H0) r; exact ⟨_, rfl, q _ _ G H hk S Le.rfl' (.int _)⟩)
  | int =>
    refine xe_Ty call_int1 hg hm PyProof.Rows.boot_int ha pa (by decide) (by decide) fun P G0 H0 G H H1 W n σ f v x k Q S r hk q => ?_
    obtain ⟨x, bx⟩ := x
    cases x <;> first
      | exact (show False from hk).elim
      | (cases int_of (P := P) (G := rg bx G H0) r; exact .inl ⟨_, rfl, q _ _ G H hk S Le.rfl' (.int _)⟩)
  | sum =>
    refine xe_B (cr_sum hc) hg hm PyProof.Rows.boot_sum ha pa (by decide) (by decide) fun P G0 H0 G H H1 W n σ f v x k Q S r hk q => ?_
    obtain ⟨x, bx⟩ := x
    cases x <;> first
      | exact (show False from hk).elim
      | (obtain ⟨pp, vs, rfl, _, _, h, r⟩ := r
         obtain ⟨ns, e, hk⟩ := hk
         rw [ints_ofD r e] at h
         exact ⟨pp, ns, rfl, SqL.of h, q _ _ G H hk S Le.rfl' (.int _)⟩)
  | all =>
    refine xe_B (cr_all hc) hg hm PyProof.Rows.boot_all ha pa (by decide) (by decide) fun P G0 H0 G H H1 W n σ f v x k Q S r hk q => ?_
    obtain ⟨x, bx⟩ := x
    cases x <;> first
      | exact (show False from hk).elim
      | (obtain ⟨pp, vs, rfl, _, _, h, r⟩ := r
         obtain ⟨ns, e, hk⟩ := hk
         rw [bls_ofD r e] at h
         exact ⟨pp, ns, rfl, SqL.of h, q _ _ G H hk S Le.rfl' (.bl _)⟩)
  | any =>
    refine xe_B (cr_any hc) hg hm PyProof.Rows.boot_any ha pa (by decide) (by decide) fun P G0 H0 G H H1 W n σ f v x k Q S r hk q => ?_
    obtain ⟨x, bx⟩ := x
    cases x <;> first
      | exact (show False from hk).elim
      | (obtain ⟨pp, vs, rfl, _, _, h, r⟩ := r
         obtain ⟨ns, e, hk⟩ := hk
         rw [bls_ofD r e] at h
         exact ⟨pp, ns, rfl, SqL.of h, q _ _ G H hk S Le.rfl' (.bl _)⟩)
  | max =>
    refine xe_B (cr_max hc) hg hm PyProof.Rows.boot_max ha pa (by decide) (by decide) fun P G0 H0 G H H1 W n σ f v x k Q S r hk q => ?_
    obtain ⟨x, bx⟩ := x
    cases x <;> first
      | exact (show False from hk).elim
      | (obtain ⟨pp, vs, rfl, _, _, h, r⟩ := r
         obtain ⟨ns, e, l, hk⟩ := hk
         rw [ints_ofD r e] at h
         exact ⟨pp, ns, rfl, SqL.of h, l, fun m h1 h2 => q _ _ G H (hk m h1 h2) S Le.rfl' (.int _)⟩)
  | min =>
    refine xe_B (cr_min hc) hg hm PyProof.Rows.boot_min ha pa (by decide) (by decide) fun P G0 H0 G H H1 W n σ f v x k Q S r hk q => ?_
    obtain ⟨x, bx⟩ := x
    cases x <;> first
      | exact (show False from hk).elim
      | (obtain ⟨pp, vs, rfl, _, _, h, r⟩ := r
         obtain ⟨ns, e, l, hk⟩ := hk
         rw [ints_ofD r e] at h
         exact ⟨pp, ns, rfl, SqL.of h, l, fun m h1 h2 => q _ _ G H (hk m h1 h2) S Le.rfl' (.int _)⟩)
  | minP =>
    refine xe_B (cr_minD hc (by omega)) hg hm PyProof.Rows.boot_min ha pa (by decide) (by decide) fun P G0 H0 G H H1 W n σ f v x k Q S r hk q => ?_
    obtain ⟨x, bx⟩ := x
    cases x <;> first
      | exact (show False from hk).elim
      | (obtain ⟨p, ps, e, hk⟩ := hk
         have e2 := pairs_eq e
         subst e2
         obtain ⟨pp, vs, rfl, _, _, h, r⟩ := r
         have dall := dps_of (K := X.K) (H := H) (fun a o q => S.bs.gh a o (rg_sub a o q)) _ _ _ r (pairs_toPs (p :: ps))
         refine ⟨pp, vs, pD p, ps.map pD, rfl, SqL.of h, dall, pairs_alike p ps, pairs_depth (p :: ps), pairs_lay (p :: ps), fun i y hy hi => ?_⟩
         rw [pairs_least] at hi
         have hj := pairs_at (qs := p :: ps) hi
         obtain ⟨w, hw, rw'⟩ := r.get (by rw [List.getElem?_map, hj]; rfl)
         rw [hy] at hw
         cases hw
         exact q _ _ G H hk S Le.rfl' rw')
  | tuple =>
    refine xe_Ty call_tuple_of hg hm PyProof.Rows.boot_tuple ha pa (by decide) (by decide) fun P G0 H0 G H H1 W n σ f v x k Q S r hk q => ?_
    obtain ⟨x, bx⟩ := x
    cases x with
    | lst xs =>
      obtain ⟨pp, vs, rfl, _, _, h, r⟩ := r
      refine ⟨pp, vs, rfl, .inl ⟨SqL.of h, fun l hl => ?_⟩⟩
      obtain ⟨a1, a2, a3, a4⟩ := fin_new (o := .tup vs) S S Le.rfl' hl
      exact q _ _ _ _ hk a1 a2 (.tup (a4 _) ((RdL.fls r).mono (rg_mono a3)))
    | tup xs =>
      have r' : RdD P (rg bx G H0) v (.tup xs) := r
      cases r' with
      | tup h r => exact ⟨_, _, rfl, .inr ⟨SqT.of (S.bs.gh _ _ (rg_sub _ _ h)), q _ _ G H hk S Le.rfl' (.tup h r)⟩⟩
    | _ => exact (show False from hk).elim
  | repr =>
    refine xe_B (call_reprA gd hu) hg hm PyProof.Rows.boot_repr ha pa (by decide) (by decide) fun P G0 H0 G H H1 W n σ f v x k Q S r hk q => ?_
    obtain ⟨x, bx⟩ := x
    cases x with
    | non =>
      cases non_of r
      exact ⟨_, rfl, .inl ⟨rfl, q _ _ G H hk S Le.rfl' (.str _)⟩⟩
    | bl b =>
      cases bl_of r
      exact ⟨_, rfl, .inr (.inl ⟨b, rfl, q _ _ G H hk S Le.rfl' (.str _)⟩)⟩
    | int i =>
      cases int_of r
      exact ⟨_, rfl, .inr (.inr (.inl ⟨i, rfl, hk.1, q _ _ G H hk.2 S Le.rfl' (.str _)⟩))⟩
    | str x =>
      cases str_of r
      exact ⟨_, rfl, .inr (.inr (.inr (.inl ⟨x, rfl, hk.1, q _ _ G H hk.2 S Le.rfl' (.str _)⟩)))⟩
    | dic ks xs =>
      obtain ⟨hk0, hk⟩ := hk
      obtain ⟨p, vs, rfl, h1, h2, _⟩ := r
      subst hk0
      exact ⟨_, rfl, .inr (.inr (.inr (.inr (.inl ⟨p, rfl, h1, q _ _ G H hk S Le.rfl' (.str _)⟩))))⟩
    | lst xs =>
      obtain ⟨p, e, h1, h2, h3, h4, hk⟩ := hk
      have dp := dpO (K := X.K) S r e
      obtain ⟨pp, vs, rfl, _⟩ := r
      exact ⟨_, rfl, .inr (.inr (.inr (.inr (.inr ⟨pp, p, rfl, dp, h1, h2, h3, h4, q _ _ G H hk S Le.rfl' (.str _)⟩))))⟩
    | tup xs =>
      obtain ⟨p, e, h1, h2, h3, h4, hk⟩ := hk
      have dp := dpO (K := X.K) S r e
      have r' : RdD P (rg bx G H0) v (.tup xs) := r
      cases r' with
      | tup h r => exact ⟨_, rfl, .inr (.inr (.inr (.inr (.inr ⟨_, p, rfl, dp, h1, h2, h3, h4, q _ _ G H hk S Le.rfl' (.str _)⟩))))⟩
    | _ => exact (show False from hk).elim
theorem bi2_rule0 : True := trivial
theorem bi2_rule {b : Bi} {ea eb : Ev DB} (hcm : X.calm = true) (hg : Gl X b.name) (hm : X.mg b.name = none) (ha : PE X a (tE cl ea)) (hc : PE X c (tE cl eb)) (pa : plainX a = true) (pc : plainX c = true) (ok : (match b with | .max => true | .min => true | _ => false) = true) :
    PE X (.Call (.Name b.name p) [a, c] [] pos) (tE cl fun f n k => ea f n fun y n1 => eb f n1 fun z n2 => bi2D b y z fun d => k d n2) := by
  have st := star_plain (es := [c]) (by rw [List.all_cons, pc]; rfl) pos X.env
  cases b with
  | max =>
    refine (pe_callB (call_max2 hcm) hg hm PyProof.Rows.boot_max (pa_cons ha (pa_cons hc pa_nil (star_cons pc [] X.env)) (star_cons pa [c] X.env)) (by decide) (by decide) (star_cons pa [c] X.env) st).imp fun σ H Q ⟨P, G0, H0, W, n, f, G, K, hcl, S, e, h⟩ =>
      TR.two kE kE hcl S e fun x y n2 hk v u G2 H2 S2 L2 r1 r2 => ?_
    obtain ⟨x, bx⟩ := x
    obtain ⟨y, by'⟩ := y
    cases x <;> cases y <;> first
      | exact (show False from hk).elim
      | (cases int_of r1; cases int_of r2; exact ⟨_, _, rfl, h _ _ hk _ G2 H2 S2 L2 (.int _)⟩)
  | min =>
    refine (pe_callB (call_min2 hcm) hg hm PyProof.Rows.boot_min (pa_cons ha (pa_cons hc pa_nil (star_cons pc [] X.env)) (star_cons pa [c] X.env)) (by decide) (by decide) (star_cons pa [c] X.env) st).imp fun σ H Q ⟨P, G0, H0, W, n, f, G, K, hcl, S, e, h⟩ =>
      TR.two kE kE hcl S e fun x y n2 hk v u G2 H2 S2 L2 r1 r2 => ?_
    obtain ⟨x, bx⟩ := x
    obtain ⟨y, by'⟩ := y
    cases x <;> cases y <;> first
      | exact (show False from hk).elim
      | (cases int_of r1; cases int_of r2; exact ⟨_, _, rfl, h _ _ hk _ G2 H2 S2 L2 (.int _)⟩)
  | _ => exact absurd ok Bool.false_ne_true

/-! ### isinstance -/
/-- the types that are asked for, as values -/
def tyV : List Ty → List V
  | [] => []
  | .t n :: ts => .ty n :: tyV ts
  | .c _ :: ts => tyV ts
def tyB : List Ty → Bool
  | [] => true
  | .t n :: ts => (n == "int" || n == "bool" || n == "str" || n == "list" || n == "tuple" || n == "dict") && tyB ts
  | .c _ :: _ => false
theorem tyX_of {P : Pt} {G H : Hp} {K : PySem.W.Frag} {v : V} {d : D} (g : Sub G H) (r : RdD P G v d) (h1 : ∀ c fs, d ≠ .ins c fs) (h2 : d ≠ .strm) : TyX K H v (.type d.ty) := by
  cases r with
  | non => exact .base .non
  | bl b => exact .base (.bl b)
  | int i => exact .base (.int i)
  | str x => exact .base (.str x)
  | strm => exact absurd rfl h2
  | lst h r => exact .base (.lst (g _ _ h))
  | tup h r => exact .base (.tup (g _ _ h))
  | dic h l r => exact .base (.dK (g _ _ h))
  | dit h l r => exact .base (.dT (g _ _ h))
  | ins c h l r => exact absurd rfl (h1 _ _)
theorem isT_some {d : D} {n : String} {c : Bool} (h : isT d (.t n) = some c) : (∀ c fs, d ≠ .ins c fs) ∧ d ≠ .strm ∧ kitB d.ty n = some c := by
  cases d <;> first
    | (cases h; done)
    | exact ⟨fun _ _ z => (by cases z), fun z => (by cases z), h⟩
theorem isTs_kit {K : PySem.W.Frag} {d : D} : ∀ {ts : List Ty} {c : Bool}, tyB ts = true → isTs d ts = some c → PySem.W.kitAny K (.type d.ty) ((tyV ts).map fun v => match v with | .ty n => Value.type n | _ => .none) = some c
  | [], c, _, h => by cases h; rfl
  | .c _ :: _, _, hb, _ => absurd hb Bool.false_ne_true
  | .t n :: ts, c, hb, h => by
    have hb' : tyB ts = true := (Bool.and_eq_true_iff.mp hb).2
    have h' : (match isT d (.t n) with
      | some true => some true
      | some false => isTs d ts
      | none => none) = some c := h
    cases q : isT d (.t n) with
    | none => rw [q] at h'; cases h'
    | some b =>
      rw [q] at h'
      have k1 : PySem.W.kitOne K (.type d.ty) (.type n) = some b := kit_ty (isT_some q).2.2
      show PySem.W.kitAny K (.type d.ty) (.type n :: _) = some c
      cases b with
      | true => exact kitAny_cons k1 (fun z => by cases z) (fun _ => (Option.some.inj h').symm)
      | false => exact kitAny_cons k1 (fun _ => isTs_kit hb' h') (fun z => by cases z)
theorem tyV_cls : ∀ {ts : List Ty}, tyB ts = true → Paired ClsV (tyV ts) ((tyV ts).map fun v => match v with | .ty n => Value.type n | _ => .none)
  | [], _ => .nil
  | .c _ :: _, hb => absurd hb Bool.false_ne_true
  | .t n :: ts, hb => .cons (.ty n) (tyV_cls (Bool.and_eq_true_iff.mp hb).2)
theorem isTs_ne {d : D} : ∀ {ts : List Ty} {c : Bool}, ts ≠ [] → tyB ts = true → isTs d ts = some c → (∀ c fs, d ≠ .ins c fs) ∧ d ≠ .strm
  | [], _, h, _, _ => absurd rfl h
  | .c _ :: _, _, _, hb, _ => absurd hb Bool.false_ne_true
  | .t n :: ts, c, _, _, h => by
    have h' : (match isT d (.t n) with
      | some true => some true
      | some false => isTs d ts
      | none => none) = some c := h
    cases q : isT d (.t n) with
    | none => rw [q] at h'; cases h'
    | some b => exact ⟨(isT_some q).1, (isT_some q).2.1⟩
/-- the names of types as arguments -/
def tVs (vs : List V) : TA := fun _ H Q => Q vs H
theorem pe_ty {n : String} {e : Expr} (hn : (n == "int" || n == "bool" || n == "str" || n == "list" || n == "tuple" || n == "dict") = true) (he : ∃ q, e = .Name (PySem.Str.ofString n) q) (hg : Gl X (PySem.Str.ofString n)) (hm : X.mg (PySem.Str.ofString n) = none) : PE X e (tC (.ty n)) := by
  obtain ⟨q, rfl⟩ := he
  simp only [Bool.or_eq_true, beq_iff_eq] at hn
  rcases hn with ((((rfl | rfl) | rfl) | rfl) | rfl) | rfl
  · exact pe_bltn hg hm PyProof.Rows.boot_int rfl
  · exact pe_bltn hg hm PyProof.Rows.boot_bool rfl
  · exact pe_bltn hg hm PyProof.Rows.boot_str rfl
  · exact pe_bltn hg hm PyProof.Rows.boot_list rfl
  · exact pe_bltn hg hm PyProof.Rows.boot_tuple rfl
  · exact pe_bltn hg hm PyProof.Rows.boot_dict rfl
theorem pa_tys : ∀ {ts : List Ty} {es : List Expr}, tysOk X.env.scope ts es = true → (∀ n : String, (n == "int" || n == "bool" || n == "str" || n == "list" || n == "tuple" || n == "dict") = true → X.mg (PySem.Str.ofString n) = none) → PA X es (tVs (tyV ts)) ∧ tyB ts = true
  | [], [], _, _ => ⟨pa_nil, rfl⟩
  | [], _ :: _, h, _ => absurd h Bool.false_ne_true
  | _ :: _, [], h, _ => absurd h Bool.false_ne_true
  | t :: ts, e :: es, h, hm => by
    have h' : tyOk X.env.scope t e = true ∧ tysOk X.env.scope ts es = true := Bool.and_eq_true_iff.mp h
    obtain ⟨h1, h2⟩ := pa_tys h'.2 hm
    cases t with
    | c _ => exact absurd h'.1 Bool.false_ne_true
    | t n =>
      cases e with
      | Name x q =>
        have h3 : ((decide (x = PySem.Str.ofString n) && glN X.env.scope x) && (n == "int" || n == "bool" || n == "str" || n == "list" || n == "tuple" || n == "dict")) = true := h'.1
        obtain ⟨h4, h5⟩ := Bool.and_eq_true_iff.mp h3
        obtain ⟨h6, h7⟩ := Bool.and_eq_true_iff.mp h4
        have ex := of_decide_eq_true h6
        subst ex
        have hg : X.env.scope.names.lookup (PySem.Str.ofString n) = some .globalImplicit := of_decide_eq_true (Bool.and_eq_true_iff.mp h7).1
        exact ⟨(pa_cons (pe_ty h5 ⟨q, rfl⟩ hg (hm n h5)) h1 (star_cons rfl es X.env)).imp fun σ H Q w => w, by show (_ && tyB ts) = true; rw [h5, h2]; rfl⟩
      | _ => exact absurd h'.1 Bool.false_ne_true
theorem boot_isi : bootBuiltins "isinstance" = some (.builtin "isinstance") := PyProof.Rows.boot_isinstance
/-- isinstance(a, T) -/
theorem xe_isi1 {ea : Ev DB} {ts : List Ty} {t : Expr} (hg : Gl X "isinstance") (hm : X.mg "isinstance" = none) (ha : PE X a (tE cl ea)) (pa : plainX a = true) (ht : tysOk X.env.scope ts [t] = true)
    (hmt : ∀ n : String, (n == "int" || n == "bool" || n == "str" || n == "list" || n == "tuple" || n == "dict") = true → X.mg (PySem.Str.ofString n) = none) :
    PE X (.Call (.Name "isinstance" p) [a, t] [] pos) (tE cl fun f n k => ea f n fun x n1 => ∃ c, isTs x.1 ts = some c ∧ k (.bl c, true) n1) := by
  obtain ⟨h1, h2⟩ := pa_tys ht hmt
  have pt : plainX t = true := by
    cases ts with
    | nil => exact absurd ht Bool.false_ne_true
    | cons t1 ts => cases t1 <;> cases t <;> first | rfl | exact absurd (Bool.and_eq_true_iff.mp ht).1 Bool.false_ne_true
  have one : ∃ n, ts = [.t n] := by
    cases ts with
    | nil => exact absurd ht Bool.false_ne_true
    | cons t1 r =>
      cases r with
      | cons _ _ => exact absurd (Bool.and_eq_true_iff.mp ht).2 Bool.false_ne_true
      | nil => cases t1 with
        | t n => exact ⟨n, rfl⟩
        | c _ => exact absurd h2 Bool.false_ne_true
  obtain ⟨n, rfl⟩ := one
  refine (pe_callB call_isi hg hm boot_isi (pa_cons ha h1 (star_cons pa [t] X.env)) (by decide) (by decide) (star_cons pa [t] X.env) (star_plain (es := [t]) (by rw [List.all_cons, pt]; rfl) pos X.env)).imp fun σ H Q ⟨P, G0, H0, W, m, f, G, K, hcl, S, e, h⟩ => TR.one hcl S e fun x n1 ⟨c, hx, kx⟩ v G1 H1 S1 L1 r1 => ?_
  have hne := isTs_ne (List.cons_ne_nil _ _) h2 hx
  have kq : PySem.W.kitAny X.K (.type x.1.ty) [.type n] = some c := isTs_kit h2 hx
  have k1 : PySem.W.kitOne X.K (.type x.1.ty) (.type n) = some c := by
    unfold PySem.W.kitAny at kq
    cases q : PySem.W.kitOne X.K (.type x.1.ty) (.type n) with
    | none => rw [q] at kq; cases kq
    | some b => rw [q] at kq; cases b <;> first | exact kq | exact kq
  exact ⟨v, .ty n, _, _, c, rfl, .ty n, tyX_of (fun a o z => S1.bs.gh a o (rg_sub a o z)) r1 hne.1 hne.2, k1, h _ _ kx _ G1 H1 S1 L1 (.bl c)⟩
/-- isinstance(a, (T1, T2 ..)) -/
theorem xe_isiT {ea : Ev DB} {ts : List Ty} {es : List Expr} {k1 : Nat} {tp : Pos} (hg : Gl X "isinstance") (hm : X.mg "isinstance" = none) (ha : PE X a (tE cl ea)) (pa : plainX a = true) (ht : tysOk X.env.scope ts es = true) (hts : ts ≠ []) (hl : ts.length ≤ 100)
    (hmt : ∀ n : String, (n == "int" || n == "bool" || n == "str" || n == "list" || n == "tuple" || n == "dict") = true → X.mg (PySem.Str.ofString n) = none) :
    PE X (.Call (.Name "isinstance" p) [a, .Tuple es k1 tp] [] pos) (tE cl fun f n k => ea f n fun x n1 => ∃ c, isTs x.1 ts = some c ∧ k (.bl c, true) n1) := by
  obtain ⟨h1, h2⟩ := pa_tys ht hmt
  refine (pe_callB call_isiT hg hm boot_isi (pa_cons ha (pa_cons (pe_tup h1) pa_nil (star_cons rfl [] X.env)) (star_cons pa [.Tuple es k1 tp] X.env)) (by decide) (by decide) (star_cons pa [.Tuple es k1 tp] X.env) rfl).imp fun σ H Q ⟨P, G0, H0, W, m, f, G, K, hcl, S, e, h⟩ => TR.one hcl S e fun x n1 ⟨c, hx, kx⟩ v G1 H1 S1 L1 r1 => ?_
  have hne := isTs_ne hts h2 hx
  have len : ∀ ts : List Ty, (tyV ts).length ≤ ts.length := by
    intro ts
    induction ts with
    | nil => exact Nat.le_refl _
    | cons t ts ih => cases t <;> simp only [tyV, List.length_cons] <;> omega
  refine ⟨Nat.le_trans (len ts) (Nat.le_trans hl (by rw [sizeLine_eq]; decide)), fun q hq => ?_⟩
  obtain ⟨a1, a2, a3, a4⟩ := fin_new (o := .tup (tyV ts)) S S1 L1 hq
  exact ⟨v, q, tyV ts, _, _, c, rfl, upd_same, tyV_cls h2, tyX_of (fun a o z => a1.bs.gh a o (a3 a o (rg_sub a o z))) r1 hne.1 hne.2, isTs_kit h2 hx, h _ _ kx _ _ _ a1 a2 (.bl c)⟩
end
end DL


set_option maxHeartbeats 4000000
/-! DL9: new lists by operators; what a for walks. -/
namespace DL
open PySem PySem.Spec PyProof.Rows L2

section
variable {X : Cx} {cl : Cls0} {a b c ex : Expr} {pos p : Pos} {x : Str}
/-- a new list that is not frozen -/
theorem fin_own {P : Pt} {G0 H0 G H G1 H1 : Hp} {W : Nat → Addr → Prop} {n n1 : Nat} {σ : L2.St} {f : Fr} {q : Addr} {vs : List V} {xs : List D} {b : Bool} (S : SR P G0 H0 W n σ f G H) (S1 : SR P G0 H0 W n1 σ f G1 H1) (L1 : Le P G H G1 H1) (hq : H1 q = none) (r : RdL P (rg b G1 H0) vs xs) :
    SR P G0 H0 W n1 σ f G1 (upd H1 q (.lst vs)) ∧ Le P G H G1 (upd H1 q (.lst vs)) ∧ relL P H H0 G1 (upd H1 q (.lst vs)) (.ref q) (xs, b) := by
  have g1 : G1 q = none := by
    cases z : G1 q with
    | none => rfl
    | some o => rw [S1.bs.gh _ _ z] at hq; cases hq
  exact ⟨S1.newO hq, Le.trans S.bs S1.bs.st L1 (Le.own hq), q, vs, rfl, L1.none S.bs.st S1.bs.st hq, g1, upd_same, r⟩
theorem xl_cat {ea eb : Ev DB} (ha : PE X a (tO cl ea)) (hb : PE X b (tO cl eb)) : PE X (.BinOp a .Add b pos) (tL cl fun f n k => ea f n fun x n1 => eb f n1 fun y n2 => match x, y with
    | (.lst xs, b), (.lst ys, c) => xs.length + ys.length ≤ sizeLine ∧ k (xs ++ ys) (fls b xs && fls c ys) n2
    | _, _ => False) := by
  refine (pe_op op_cat ha hb).imp fun σ H Q ⟨P, G0, H0, W, n, f, G, K, hc, S, e, h⟩ => TR.two kO kO hc S e fun x y n2 hk v u G2 H2 S2 L2 r1 r2 => ?_
  obtain ⟨x, bx⟩ := x
  obtain ⟨y, by'⟩ := y
  cases x <;> cases y <;> first
    | exact (show False from hk).elim
    | (obtain ⟨p1, vs, rfl, _, _, h1, r1⟩ := r1
       obtain ⟨p2, us, rfl, _, _, h2, r2⟩ := r2
       obtain ⟨hl, hk⟩ := hk
       refine ⟨p1, p2, vs, us, rfl, rfl, h1, h2, by rw [r1.length, r2.length]; exact hl, fun q hq => ?_⟩
       obtain ⟨a1, a2, a3⟩ := fin_own S S2 L2 hq (RdL.append ((RdL.fls r1).mono (rg_le fun z => (Bool.and_eq_true_iff.mp z).1)) ((RdL.fls r2).mono (rg_le fun z => (Bool.and_eq_true_iff.mp z).2)))
       exact h (_, _) _ hk _ _ _ a1 a2 a3)
theorem xl_rep {ea eb : Ev DB} (ha : PE X a (tO cl ea)) (hb : PE X b (tE cl eb)) : PE X (.BinOp a .Mult b pos) (tL cl fun f n k => ea f n fun x n1 => eb f n1 fun y n2 => match x, y.1 with
    | (.lst xs, b), .int m => -(2 ^ 63) ≤ m ∧ m < 2 ^ 63 ∧ xs.length * m.toNat ≤ sizeLine ∧ k (List.replicate m.toNat xs).flatten (fls b xs) n2
    | _, _ => False) := by
  refine (pe_op op_rep ha hb).imp fun σ H Q ⟨P, G0, H0, W, n, f, G, K, hc, S, e, h⟩ => TR.two kO kE hc S e fun x y n2 hk v u G2 H2 S2 L2 r1 r2 => ?_
  obtain ⟨x, bx⟩ := x
  obtain ⟨y, by'⟩ := y
  cases x <;> cases y <;> first
    | exact (show False from hk).elim
    | (obtain ⟨p1, vs, rfl, _, _, h1, r1⟩ := r1
       cases int_of r2
       obtain ⟨l1, l2, l3, hk⟩ := hk
       refine ⟨p1, _, vs, rfl, rfl, h1, l1, l2, by rw [r1.length]; exact l3, fun q hq => ?_⟩
       obtain ⟨a1, a2, a3⟩ := fin_own S S2 L2 hq (RdL.rep (RdL.fls r1) _)
       exact h (_, _) _ hk _ _ _ a1 a2 a3)
theorem xp_no : PO X none (tP cl fun _ n k => k none n) := po_none.imp fun σ H Q ⟨P, G0, H0, W, n, f, G, K, hc, S, e, h⟩ => h _ _ e _ G H S Le.rfl' rfl
theorem xp_yes {ea : Ev DB} (ha : PE X a (tE cl ea)) : PO X (some a) (tP cl fun f n k => ea f n fun x n1 => match x.1 with | .int i => k (some i) n1 | _ => False) :=
  (po_some ha).imp fun σ H Q ⟨P, G0, H0, W, n, f, G, K, hc, S, e, h⟩ => TR.one hc S e fun x n1 hx v G1 H1 S1 L1 r1 => by
    obtain ⟨x, bx⟩ := x
    cases x <;> first
      | exact (show False from hx).elim
      | (cases int_of r1; exact ⟨_, rfl, h _ _ hx _ G1 H1 S1 L1 rfl⟩)
theorem RdL.cut {P : Pt} {G : Hp} {vs : List V} {xs : List D} (r : RdL P G vs xs) (lo hi : Option Int) : RdL P G (cutV vs lo hi) (cutD xs lo hi) := by
  unfold cutV cutD
  rw [r.length]
  exact (r.drop _).take _
theorem xl_sl {ea : Ev DB} {el eh : Ev (Option Int)} {lo hi : Option Expr} {p2 : Pos} (ha : PE X a (tO cl ea)) (hl : PO X lo (tP cl el)) (hh : PO X hi (tP cl eh)) :
    PE X (.Subscript a (.Slice lo hi none p2) pos) (tL cl fun f n k => ea f n fun x n1 => el f n1 fun i n2 => eh f n2 fun j n3 => match x with
      | (.lst xs, b) => k (cutD xs i j) (fls b xs) n3
      | _ => False) := by
  refine (pe_slice sl_list ha hl hh).imp fun σ H Q ⟨P, G0, H0, W, n, f, G, K, hc, S, e, h⟩ => ?_
  refine TR.two (K := fun x i n2 => eh f n2 fun j n3 => match x with
      | (.lst xs, b) => K (cutD xs i j, fls b xs) n3
      | _ => False) (Q := fun x l H2 => tP cl eh σ H2 fun u H3 => rSlL X.K x l u H3 Q) kO kP hc S e fun x i n2 hk v u G2 H2 S2 L2 r1 r2 => ?_
  cases (show u = i from r2)
  refine TR.one hc S2 hk fun j n3 hj w G3 H3 S3 L3 r3 => ?_
  cases (show w = j from r3)
  have r1 := kO.step S.bs.st S2 L2 L3 S3.bs.st r1
  obtain ⟨x, bx⟩ := x
  cases x <;> first
    | exact (show False from hj).elim
    | (obtain ⟨p1, vs, rfl, _, _, h1, r1⟩ := r1
       refine ⟨p1, vs, rfl, SqL.of h1, fun q hq => ?_⟩
       obtain ⟨a1, a2, a3⟩ := fin_own S S3 (Le.trans S.bs S2.bs.st L2 L3) hq ((RdL.fls r1).cut _ _)
       exact h (_, _) _ hj _ _ _ a1 a2 a3)
theorem xl_rev {ea : Ev DB} {k1 : Nat} {p1 p2 p3 : Pos} (ha : PE X a (tO cl ea)) : PE X (.Subscript a (.Slice none none (some (.UnaryOp .USub (.Constant (.int 1) k1 p1) p2)) p3) pos) (tL cl fun f n k => ea f n fun x n1 => match x with
    | (.lst xs, b) => k xs.reverse (fls b xs) n1
    | _ => False) := by
  refine (pe_revL ha).imp fun σ H Q ⟨P, G0, H0, W, n, f, G, K, hc, S, e, h⟩ => TR.one (K := fun x n1 => match x with
    | (.lst xs, b) => K (xs.reverse, fls b xs) n1
    | _ => False) hc S e fun x n1 hx v G1 H1 S1 L1 r1 => ?_
  obtain ⟨x, bx⟩ := x
  cases x <;> first
    | exact (show False from hx).elim
    | (obtain ⟨p1, vs, rfl, _, _, h1, r1⟩ := r1
       refine ⟨p1, vs, rfl, SqL.of h1, fun q hq => ?_⟩
       obtain ⟨a1, a2, a3⟩ := fin_own S S1 L1 hq (RdL.reverse (RdL.fls r1))
       exact h (_, _) _ hx _ _ _ a1 a2 a3)
theorem keysR {P : Pt} {G : Hp} : ∀ ks : List Key, RdL P G (ks.map kV) (ks.map keyD)
  | [] => .nil
  | .inl i :: ks => .cons (.int i) (keysR ks)
  | .inr x :: ks => .cons (.str x) (keysR ks)
theorem isKeys_of_zip {H : Hp} : ∀ {ks : List (List Key)} {vs : List V} {bs : List Addr}, ks.length = vs.length → IsKeys H (ks.zip vs) bs → Paired (fun k b => H b = some (.tup (k.map kV))) ks bs
  | [], [], bs, _, h => by cases h; exact .nil
  | [], _ :: _, _, l, _ => by cases l
  | _ :: _, [], _, l, _ => by cases l
  | k :: ks, v :: vs, bs, l, h => by
    cases h with
    | cons a b => exact .cons a (isKeys_of_zip (Nat.succ.inj l) b)
/-- tuples that stand are frozen -/
theorem frzTups {P : Pt} {G0 H0 G H : Hp} {W : Nat → Addr → Prop} {n : Nat} {σ : L2.St} {f : Fr} (S : SR P G0 H0 W n σ f G H) {ks : List (List Key)} {bs : List Addr} (h : Paired (fun k b => H b = some (.tup (k.map kV))) ks bs) :
    ∃ G', SR P G0 H0 W n σ f G' H ∧ Le P G H G' H ∧ RdL P (rg false G' H0) (bs.map V.ref) (ks.map fun ys => D.tup (ys.map keyD)) := by
  classical
  have tup : ∀ b ∈ bs, ∃ ys, H b = some (.tup ys) := by
    intro b hb
    induction h with
    | nil => cases hb
    | cons a _ ih =>
      rcases List.mem_cons.mp hb with z | z
      · rw [z]; exact ⟨_, a⟩
      · exact ih z
  have e : ∀ a, (if a ∈ bs then H a else G a) = G a ∨ (a ∈ bs ∧ (if a ∈ bs then H a else G a) = H a) := fun a => by
    by_cases z : a ∈ bs
    · exact .inr ⟨z, if_pos z⟩
    · exact .inl (if_neg z)
  have L : Le P G H (fun a => if a ∈ bs then H a else G a) H := ⟨fun a o q => by
      rcases e a with z | ⟨_, z⟩
      · exact z.trans q
      · exact z.trans (S.bs.gh _ _ q), fun a q => by
      rcases e a with z | ⟨z, _⟩
      · exact .inl z
      · exact .inr (tup a z), fun _ _ q _ _ => q⟩
  refine ⟨_, S.le L (fun a o q => ?_) S.bs.st, L, ?_⟩
  · rcases e a with z | ⟨_, z⟩
    · exact S.bs.gh _ _ (z.symm.trans q)
    · exact z.symm.trans q
  · have key : ∀ {ks : List (List Key)} {cs : List Addr}, (∀ c ∈ cs, c ∈ bs) → Paired (fun k b => H b = some (.tup (k.map kV))) ks cs → RdL P (rg false (fun a => if a ∈ bs then H a else G a) H0) (cs.map V.ref) (ks.map fun ys => D.tup (ys.map keyD)) := by
      intro ks cs hc h
      induction h with
      | nil => exact .nil
      | cons a _ ih =>
        rename_i b _ _ _
        refine .cons (.tup (vs := _) ?_ (keysR _)) (ih fun c z => hc c (List.mem_cons_of_mem _ z))
        · show (if _ ∈ bs then H _ else G _) = _
          rw [if_pos (hc _ List.mem_cons_self)]; exact a
    exact key (fun _ z => z) h
theorem xl_of {ea : Ev DB} (hcm : X.calm = true) (hg : Gl X "list") (hm : X.mg "list" = none) (ha : PE X a (tO cl ea)) (pa : plainX a = true) : PE X (.Call (.Name "list" p) [a] [] pos) (tL cl fun f n k => ea f n fun x n1 => match x with
    | (.lst xs, b) => k xs (fls b xs) n1
    | (.tup xs, b) => k xs (fls b xs) n1
    | (.dic ks _, _) => k (ks.map keyD) true n1
    | (.dit ks _, _) => k (ks.map fun ys => .tup (ys.map keyD)) false n1
    | _ => False) := by
  refine (pe_callTy (call_list_of.or ((call_listD hcm).or (call_list_dT hcm))) hg hm PyProof.Rows.boot_list (pa_cons ha pa_nil (star_cons pa [] X.env)) (by decide) (by decide) (star_cons pa [] X.env) rfl).imp fun σ H Q ⟨P, G0, H0, W, n, f, G, K, hc, S, e, h⟩ => TR.one (K := fun x n1 => match x with
    | (.lst xs, b) => K (xs, fls b xs) n1
    | (.tup xs, b) => K (xs, fls b xs) n1
    | (.dic ks _, _) => K (ks.map keyD, true) n1
    | (.dit ks _, _) => K (ks.map fun ys => .tup (ys.map keyD), false) n1
    | _ => False) hc S e fun x n1 hx v G1 H1 S1 L1 r1 => ?_
  obtain ⟨x, bx⟩ := x
  cases x with
  | lst xs =>
    obtain ⟨p1, vs, rfl, _, _, h1, r1⟩ := r1
    refine .inl ⟨p1, vs, rfl, .inl (SqL.of h1), fun q hq => ?_⟩
    obtain ⟨a1, a2, a3⟩ := fin_own S S1 L1 hq (RdL.fls r1)
    exact h (_, _) _ hx _ _ _ a1 a2 a3
  | tup xs =>
    have r1' : RdD P (rg bx G1 H0) v (.tup xs) := r1
    cases r1' with
    | tup h1 r1 =>
      refine .inl ⟨_, _, rfl, .inr (SqT.of (S1.bs.gh _ _ (rg_sub _ _ h1))), fun q hq => ?_⟩
      obtain ⟨a1, a2, a3⟩ := fin_own S S1 L1 hq (RdL.fls r1)
      exact h (_, _) _ hx _ _ _ a1 a2 a3
  | dic ks xs =>
    obtain ⟨p1, vs, rfl, h1, l1, r1⟩ := r1
    refine .inr (.inl ⟨p1, _, rfl, .inl h1, fun q hq => ?_⟩)
    have e : ((ks.zip vs).map fun kv => kV kv.1) = ks.map kV := by
      show (ks.zip vs).map (kV ∘ Prod.fst) = _
      rw [← List.map_map, List.map_fst_zip (Nat.le_of_eq l1)]
    rw [e]
    obtain ⟨a1, a2, a3⟩ := fin_own (b := true) S S1 L1 hq (keysR ks)
    exact h (_, _) _ hx _ _ _ a1 a2 a3
  | dit ks xs =>
    obtain ⟨p1, vs, rfl, h1, l1, r1⟩ := r1
    refine .inr (.inr ⟨p1, _, rfl, .inl h1, fun q bs hq hk => ?_⟩)
    obtain ⟨G2, b1, b2, b3⟩ := frzTups S1 (isKeys_of_zip l1 hk)
    obtain ⟨a1, a2, a3⟩ := fin_own (b := false) S b1 (Le.trans S.bs S1.bs.st L1 b2) hq b3
    exact h (_, _) _ hx _ _ _ a1 a2 a3
  | _ => exact (show False from hx).elim

/-! ### iterators -/
def RdB (P : Pt) (G H0 : Hp) : List V → List DB → Prop
  | [], [] => True
  | v :: vs, r :: rs => RdD P (rg r.2 G H0) v r.1 ∧ RdB P G H0 vs rs
  | _, _ => False
theorem RdB.mono {P : Pt} {G G' H0 : Hp} (g : Sub G G') : ∀ {vs : List V} {rs : List DB}, RdB P G H0 vs rs → RdB P G' H0 vs rs
  | [], [], _ => trivial
  | _ :: _, _ :: _, h => ⟨h.1.mono (rg_mono g), RdB.mono g h.2⟩
  | [], _ :: _, h => h.elim
  | _ :: _, [], h => h.elim
/-- the iterator J gives these items; it stands while what stood stands (fz: while what was frozen stands) -/
def ItR (P : Pt) (H0 G' H' : Hp) (J : It) (items : List (List DB)) (fz : Bool) : Prop := ∃ (St : Hp → Prop) (vss : List (List V)),
  (∀ H2, (∀ a o, H' a = some o → a ≠ P.s → a ≠ P.l → H2 a = some o) → St H2) ∧ (fz = true → ∀ H2, Sub G' H2 → St H2) ∧ vss.length = items.length ∧ (∀ (i : Nat) vs its, vss[i]? = some vs → items[i]? = some its → RdB P G' H0 vs its) ∧
  (∀ i H2, St H2 → i < items.length → J.go i H2) ∧ (∀ H2, St H2 → J.stop items.length H2) ∧
  ((∀ i H2 v H3, St H2 → J.yld i H2 v H3 → i < items.length → H3 = H2 ∧ vss[i]? = some [v]) ∨
   (∀ i H2 v H3, St H2 → J.yld i H2 v H3 → i < items.length → ∃ T x y, v = .ref T ∧ H2 T = none ∧ H3 = upd H2 T (.tup [x, y]) ∧ vss[i]? = some [x, y]))
abbrev EvI := Fr → Nat → (List (List DB) → Nat → Prop) → Prop
def tI (cl : Cls0) (ev : EvI) (fz : Bool) : TI := fun σ H R => ∃ (P : Pt) (G0 H0 : Hp) (W : Nat → Addr → Prop) (n : Nat) (f : Fr) (G : Hp) (K : List (List DB) → Nat → Prop), P.cl = cl ∧ SR P G0 H0 W n σ f G H ∧ ev f n K ∧
  ∀ items n', K items n' → ∀ J G' H', SR P G0 H0 W n' σ f G' H' → Le P G H G' H' → ItR P H0 G' H' J items fz → R J H'
/-- a list or a tuple is walked -/
theorem pi_seq {tg l : Expr} {tl : TE} (hl : PE X l tl) : PI X tg l (fun σ H R => tl σ H fun x H1 => ∃ a, x = .ref a ∧ (((∃ xs, SqL X.K H1 a xs) ∧ R (Itl X.K a) H1) ∨ ((∃ xs, SqT X.K H1 a xs) ∧ R (Itt X.K a) H1))) := by
  refine ⟨fun pins s σ H R I h => ?_⟩
  refine thn (hl.run pins s σ H _ I h) fun v s1 ⟨x, H1, I1, r1, q1⟩ => ?_
  obtain ⟨a, e, q1⟩ := q1
  subst e
  cases r1
  rcases q1 with ⟨⟨xs, hq⟩, q⟩ | ⟨⟨xs, hq⟩, q⟩
  · obtain ⟨its, rv, p, hz⟩ := I1.list hq
    refine wpAny_pyIter_list p.isList ?_
    refine ⟨s1.heap.objs.size, [s1.heap.objs.size], _, _, H1, rfl, I1.kept (t' := s1.toks) fun b o e => Heap.get?_push_of_some _ e, turn_list a _, ⟨_, Heap.get?_push_size _ rfl, rfl, rfl⟩, fun b hb => ?_, q⟩
    have e : b = s1.heap.objs.size := by simpa using hb
    subst e
    exact I1.fpOk (Nat.le_refl _) (I1.hok.fresh (Nat.le_refl _))
  · obtain ⟨its, rv, p, hz⟩ := I1.tuple hq
    refine wpAny_pyIter_tuple (show s1.heap.IsTuple a its.toArray from p) ?_
    refine ⟨s1.heap.objs.size, [s1.heap.objs.size], _, _, H1, rfl, I1.kept (t' := s1.toks) fun b o e => Heap.get?_push_of_some _ e, turn_tuple a _, ⟨_, Heap.get?_push_size _ rfl, rfl, rfl⟩, fun b hb => ?_, q⟩
    have e : b = s1.heap.objs.size := by simpa using hb
    subst e
    exact I1.fpOk (Nat.le_refl _) (I1.hok.fresh (Nat.le_refl _))
theorem rdB_get {P : Pt} {G H0 : Hp} {vs : List V} {xs : List D} {b : Bool} (r : RdL P (rg b G H0) vs xs) (i : Nat) (us : List V) (its : List DB) (h1 : (vs.map fun v => [v])[i]? = some us) (h2 : (xs.map fun d => [(d, fl b d)])[i]? = some its) : RdB P G H0 us its := by
  rw [List.getElem?_map] at h1 h2
  obtain ⟨v, e1, e2⟩ := Option.map_eq_some_iff.mp h1
  obtain ⟨d, e3, e4⟩ := Option.map_eq_some_iff.mp h2
  subst e2 e4
  obtain ⟨w, e5, rw'⟩ := r.get e3
  rw [e1] at e5
  cases e5
  exact ⟨rw'.fl, trivial⟩
theorem itR_list {P : Pt} {H0 G' H' : Hp} {K : PySem.W.Frag} {a : Addr} {vs : List V} {xs : List D} {b fz : Bool} (h : H' a = some (.lst vs)) (hs : a ≠ P.s) (hl : a ≠ P.l) (hf : fz = true → G' a = some (.lst vs)) (r : RdL P (rg b G' H0) vs xs) :
    ItR P H0 G' H' (Itl K a) (xs.map fun d => [(d, fl b d)]) fz := by
  refine ⟨fun H2 => H2 a = some (.lst vs), vs.map fun v => [v], fun H2 k => k a _ h hs hl, fun z H2 g => g _ _ (hf z), by rw [List.length_map, List.length_map, r.length], rdB_get r, fun i H2 st hi => ?_, fun H2 st => ⟨vs, SqL.of st, by rw [List.length_map, r.length]; exact Nat.le_refl _⟩, .inl fun i H2 v H3 st hy hi => ?_⟩
  · rw [List.length_map, ← r.length] at hi
    exact ⟨vs, vs[i], SqL.of st, List.getElem?_eq_getElem hi⟩
  · obtain ⟨e, q⟩ := hy
    exact ⟨e, by rw [List.getElem?_map, q vs (SqL.of st)]; rfl⟩
theorem itR_tup {P : Pt} {H0 G' H' : Hp} {K : PySem.W.Frag} {a : Addr} {vs : List V} {xs : List D} {b fz : Bool} (h : H' a = some (.tup vs)) (hs : a ≠ P.s) (hl : a ≠ P.l) (hf : fz = true → G' a = some (.tup vs)) (r : RdL P (rg b G' H0) vs xs) :
    ItR P H0 G' H' (Itt K a) (xs.map fun d => [(d, fl b d)]) fz := by
  refine ⟨fun H2 => H2 a = some (.tup vs), vs.map fun v => [v], fun H2 k => k a _ h hs hl, fun z H2 g => g _ _ (hf z), by rw [List.length_map, List.length_map, r.length], rdB_get r, fun i H2 st hi => ?_, fun H2 st => ⟨vs, SqT.of st, by rw [List.length_map, r.length]; exact Nat.le_refl _⟩, .inl fun i H2 v H3 st hy hi => ?_⟩
  · rw [List.length_map, ← r.length] at hi
    exact ⟨vs, vs[i], SqT.of st, List.getElem?_eq_getElem hi⟩
  · obtain ⟨e, q⟩ := hy
    exact ⟨e, by rw [List.getElem?_map, q vs (SqT.of st)]; rfl⟩
/-- of an operand; fz: it is a value -/
theorem xi_over {tg : Expr} {ea : Ev DB} (ha : PE X a (tO cl ea)) : PI X tg a (tI cl (fun f n k => ea f n fun x n1 => match x with
    | (.lst xs, b) => k (xs.map fun d => [(d, fl b d)]) n1
    | (.tup xs, b) => k (xs.map fun d => [(d, fl b d)]) n1
    | _ => False) false) := by
  refine (pi_seq ha).imp fun σ H R ⟨P, G0, H0, W, n, f, G, K, hc, S, e, h⟩ => TR.one hc S e fun x n1 hx v G1 H1 S1 L1 r1 => ?_
  obtain ⟨x, bx⟩ := x
  cases x with
  | lst xs =>
    obtain ⟨p1, vs, rfl, s1, s2, h1, r1⟩ := r1
    exact ⟨p1, rfl, .inl ⟨⟨vs, SqL.of h1⟩, h _ _ hx _ G1 H1 S1 L1 (itR_list h1 s1 s2 (fun z => by cases z) r1)⟩⟩
  | tup xs =>
    have r1' : RdD P (rg bx G1 H0) v (.tup xs) := r1
    cases r1' with
    | tup h1 r1 =>
      have e := rg_sub _ _ h1
      exact ⟨_, rfl, .inr ⟨⟨_, SqT.of (S1.bs.gh _ _ e)⟩, h _ _ hx _ G1 H1 S1 L1 (itR_tup (S1.bs.gh _ _ e) (S1.gne e).1 (S1.gne e).2 (fun z => by cases z) r1)⟩⟩
  | _ => exact (show False from hx).elim
theorem xi_overE {tg : Expr} {ea : Ev DB} {fz : Bool} (ha : PE X a (tE cl ea)) : PI X tg a (tI cl (fun f n k => ea f n fun x n1 => match x with
    | (.lst xs, b) => k (xs.map fun d => [(d, fl b d)]) n1
    | (.tup xs, b) => k (xs.map fun d => [(d, fl b d)]) n1
    | _ => False) fz) := by
  refine (pi_seq ha).imp fun σ H R ⟨P, G0, H0, W, n, f, G, K, hc, S, e, h⟩ => TR.one hc S e fun x n1 hx v G1 H1 S1 L1 r1 => ?_
  obtain ⟨x, bx⟩ := x
  have r1' : RdD P (rg bx G1 H0) v x := r1
  cases r1' with
  | lst h1 r5 =>
    have e := rg_sub _ _ h1
    exact ⟨_, rfl, .inl ⟨⟨_, SqL.of (S1.bs.gh _ _ e)⟩, h _ _ hx _ G1 H1 S1 L1 (itR_list (S1.bs.gh _ _ e) (S1.gne e).1 (S1.gne e).2 (fun _ => e) r5)⟩⟩
  | tup h1 r5 =>
    have e := rg_sub _ _ h1
    exact ⟨_, rfl, .inr ⟨⟨_, SqT.of (S1.bs.gh _ _ e)⟩, h _ _ hx _ G1 H1 S1 L1 (itR_tup (S1.bs.gh _ _ e) (S1.gne e).1 (S1.gne e).2 (fun _ => e) r5)⟩⟩
  | _ => exact (show False from hx).elim
theorem itR_rng {P : Pt} {H0 G' H' : Hp} {lo : Int} {m : Nat} {items : List (List DB)} {fz : Bool} (hi : items = (List.range m).map fun (i : Nat) => [(D.int (lo + i), true)]) : ItR P H0 G' H' (Itr lo m) items fz := by
  subst hi
  refine ⟨fun _ => True, (List.range m).map fun (i : Nat) => [V.int (lo + i)], fun _ _ => trivial, fun _ _ _ => trivial, by simp, fun i vs its h1 h2 => ?_, fun i H2 _ hi => (by show i < m; simpa using hi), fun H2 _ => (by show m ≤ _; simp), .inl fun i H2 v H3 _ hy hi => ?_⟩
  · rw [List.getElem?_map] at h1 h2
    obtain ⟨j, e1, e2⟩ := Option.map_eq_some_iff.mp h1
    obtain ⟨j', e3, e4⟩ := Option.map_eq_some_iff.mp h2
    rw [e1] at e3
    cases e3
    subst e2 e4
    exact ⟨.int _, trivial⟩
  · obtain ⟨e1, e2⟩ := hy
    have hi' : i < m := by simpa using hi
    exact ⟨e1, by rw [List.getElem?_map, List.getElem?_range hi', e2]; rfl⟩
theorem xi_rng1 {tg : Expr} {ea : Ev DB} {fz : Bool} (hg : Gl X "range") (hm : X.mg "range" = none) (ha : PE X a (tE cl ea)) (pa : plainX a = true) : PI X tg (.Call (.Name "range" p) [a] [] pos) (tI cl (fun f n k => ea f n fun x n1 => match x.1 with
    | .int j => -(2 ^ 62) ≤ j ∧ j < 2 ^ 62 ∧ k ((List.range j.toNat).map fun i => [(.int (i : Nat), true)]) n1
    | _ => False) fz) := by
  refine (pi_range1 hg hm (pa_cons ha pa_nil (star_cons pa [] X.env)) (star_cons pa [] X.env)).imp fun σ H R ⟨P, G0, H0, W, n, f, G, K, hc, S, e, h⟩ => TR.one hc S e fun x n1 hx v G1 H1 S1 L1 r1 => ?_
  obtain ⟨x, bx⟩ := x
  cases x <;> first
    | exact (show False from hx).elim
    | (cases int_of r1
       obtain ⟨h1, h2, hx⟩ := hx
       exact ⟨_, rfl, h1, h2, h _ _ hx _ G1 H1 S1 L1 (itR_rng (by simp))⟩)
theorem xi_rng2 {tg : Expr} {ea eb : Ev DB} {fz : Bool} (hg : Gl X "range") (hm : X.mg "range" = none) (ha : PE X a (tE cl ea)) (hb : PE X b (tE cl eb)) (pa : plainX a = true) (pb : plainX b = true) : PI X tg (.Call (.Name "range" p) [a, b] [] pos) (tI cl (fun f n k => ea f n fun x n1 => eb f n1 fun y n2 => match x.1, y.1 with
    | .int i, .int j => (-(2 ^ 62) ≤ i ∧ i < 2 ^ 62 ∧ -(2 ^ 62) ≤ j ∧ j < 2 ^ 62) ∧ k ((List.range (j - i).toNat).map fun (m : Nat) => [(.int (i + m), true)]) n2
    | _, _ => False) fz) := by
  refine (pi_range2 hg hm (pa_cons ha (pa_cons hb pa_nil (star_cons pb [] X.env)) (star_cons pa [b] X.env)) (by rw [star_cons pa, star_cons pb]; rfl) (by rw [star_cons pb]; rfl)).imp fun σ H R ⟨P, G0, H0, W, n, f, G, K, hc, S, e, h⟩ => TR.two kE kE hc S e fun x y n2 hk v u G2 H2 S2 L2 r1 r2 => ?_
  obtain ⟨x, bx⟩ := x
  obtain ⟨y, by'⟩ := y
  cases x <;> cases y <;> first
    | exact (show False from hk).elim
    | (cases int_of r1
       cases int_of r2
       obtain ⟨h1, hk⟩ := hk
       exact ⟨_, _, rfl, h1, h _ _ hk _ G2 H2 S2 L2 (itR_rng rfl)⟩)
/-- two sources, item by item -/
theorem rdB_zip {P : Pt} {G H0 : Hp} {vs us : List V} {xs ys : List D} {b c : Bool} (r : RdL P (rg b G H0) vs xs) (r' : RdL P (rg c G H0) us ys) (i : Nat) (ws : List V) (its : List DB) (h1 : (List.zipWith (fun v u => [v, u]) vs us)[i]? = some ws)
    (h2 : (List.zipWith (fun d e => [(d, fl b d), (e, fl c e)]) xs ys)[i]? = some its) : RdB P G H0 ws its := by
  rw [List.getElem?_zipWith] at h1 h2
  cases e1 : vs[i]? with
  | none => rw [e1] at h1; cases h1
  | some v =>
    cases e2 : us[i]? with
    | none => rw [e1, e2] at h1; cases h1
    | some u =>
      obtain ⟨d, e3, r1⟩ := r.getV e1
      obtain ⟨e, e4, r2⟩ := r'.getV e2
      rw [e1, e2] at h1
      rw [e3, e4] at h2
      cases h1
      cases h2
      exact ⟨r1.fl, r2.fl, trivial⟩
theorem zipItR {P : Pt} {H0 G' H' : Hp} {J : It} {o1 o2 : Addr} {u1 u2 : HO} {vs us : List V} {xs ys : List D} {b c fz : Bool} (h1 : H' o1 = some u1) (s1 : o1 ≠ P.s) (l1 : o1 ≠ P.l) (h2 : H' o2 = some u2) (s2 : o2 ≠ P.s) (l2 : o2 ≠ P.l) (f1 : fz = true → G' o1 = some u1) (f2 : fz = true → G' o2 = some u2)
    (r : RdL P (rg b G' H0) vs xs) (r' : RdL P (rg c G' H0) us ys)
    (go : ∀ i H2 x y, H2 o1 = some u1 → H2 o2 = some u2 → vs[i]? = some x → us[i]? = some y → J.go i H2) (stop : ∀ i H2, H2 o1 = some u1 → H2 o2 = some u2 → (vs.length ≤ i ∨ us.length ≤ i) → J.stop i H2)
    (yld : ∀ i H2 v H3, H2 o1 = some u1 → H2 o2 = some u2 → J.yld i H2 v H3 → ∃ T x y, v = .ref T ∧ H2 T = none ∧ H3 = upd H2 T (.tup [x, y]) ∧ vs[i]? = some x ∧ us[i]? = some y) :
    ItR P H0 G' H' J (List.zipWith (fun d e => [(d, fl b d), (e, fl c e)]) xs ys) fz := by
  refine ⟨fun H2 => H2 o1 = some u1 ∧ H2 o2 = some u2, List.zipWith (fun v u => [v, u]) vs us, fun H2 k => ⟨k _ _ h1 s1 l1, k _ _ h2 s2 l2⟩, fun z H2 g => ⟨g _ _ (f1 z), g _ _ (f2 z)⟩, by rw [List.length_zipWith, List.length_zipWith, r.length, r'.length], rdB_zip r r', fun i H2 st hi => ?_, fun H2 st => ?_, .inr fun i H2 v H3 st hy hi => ?_⟩
  · rw [List.length_zipWith, ← r.length, ← r'.length] at hi
    have q1 : i < vs.length := by omega
    have q2 : i < us.length := by omega
    exact go i H2 vs[i] us[i] st.1 st.2 (List.getElem?_eq_getElem q1) (List.getElem?_eq_getElem q2)
  · refine stop _ H2 st.1 st.2 ?_
    rw [List.length_zipWith, r.length, r'.length]
    omega
  · obtain ⟨T, x, y, e1, e2, e3, e4, e5⟩ := yld i H2 v H3 st.1 st.2 hy
    exact ⟨T, x, y, e1, e2, e3, by rw [List.getElem?_zipWith, e4, e5]⟩
theorem xi_zip {tgs : List Expr} {kk : Nat} {tpos : Pos} {ea eb : Ev DB} (hg : Gl X "zip") (hm : X.mg "zip" = none) (ha : PE X a (tO cl ea)) (hb : PE X b (tO cl eb)) (pa : plainX a = true) (pb : plainX b = true) :
    PI X (.Tuple tgs kk tpos) (.Call (.Name "zip" p) [a, b] [] pos) (tI cl (fun f n k => ea f n fun x n1 => eb f n1 fun y n2 => match x, y with
      | (.lst xs, b), (.lst ys, c) => k (List.zipWith (fun d e => [(d, fl b d), (e, fl c e)]) xs ys) n2
      | (.tup xs, b), (.tup ys, c) => k (List.zipWith (fun d e => [(d, fl b d), (e, fl c e)]) xs ys) n2
      | _, _ => False) false) := by
  refine (RZ.pi_zipA hg hm (pa_cons ha (pa_cons hb pa_nil (star_cons pb [] X.env)) (star_cons pa [b] X.env)) (star_cons pa [b] X.env) (star_plain (es := [b]) (by rw [List.all_cons, pb]; rfl) pos X.env)).imp fun σ H R ⟨P, G0, H0, W, n, f, G, K, hc, S, e, h⟩ => TR.two kO kO hc S e fun x y n2 hk v u G2 H2 S2 L2 r1 r2 => ?_
  obtain ⟨x, bx⟩ := x
  obtain ⟨y, by'⟩ := y
  cases x <;> cases y <;> first
    | exact (show False from hk).elim
    | (obtain ⟨p1, vs, rfl, s1, l1, h1, r1⟩ := r1
       obtain ⟨p2, us, rfl, s2, l2, h2, r2⟩ := r2
       refine ⟨p1, p2, vs, us, rfl, .inl ⟨SqL.of h1, SqL.of h2, h _ _ hk _ G2 H2 S2 L2 (zipItR h1 s1 l1 h2 s2 l2 (fun z => by cases z) (fun z => by cases z) r1 r2 ?_ ?_ ?_)⟩⟩
       · exact fun i H2 x y e1 e2 q1 q2 => ⟨vs, us, x, y, SqL.of e1, SqL.of e2, q1, q2⟩
       · exact fun i H2 e1 e2 q => ⟨vs, us, SqL.of e1, SqL.of e2, q⟩
       · exact fun i H2 v H3 e1 e2 ⟨T, x, y, z1, z2, z3, z4, z5⟩ => ⟨T, x, y, z1, z2, z3, z4 _ (SqL.of e1), z5 _ (SqL.of e2)⟩)
    | (rename_i xs ys
       have r1' : RdD P (rg bx G2 H0) v (.tup xs) := r1
       have r2' : RdD P (rg by' G2 H0) u (.tup ys) := r2
       cases r1' with
       | tup h1 r5 =>
         cases r2' with
         | tup h2 r6 =>
           have e1 := rg_sub _ _ h1
           have e2 := rg_sub _ _ h2
           refine ⟨_, _, _, _, rfl, .inr ⟨SqT.of (S2.bs.gh _ _ e1), SqT.of (S2.bs.gh _ _ e2), h _ _ hk _ G2 H2 S2 L2 (zipItR (S2.bs.gh _ _ e1) (S2.gne e1).1 (S2.gne e1).2 (S2.bs.gh _ _ e2) (S2.gne e2).1 (S2.gne e2).2 (fun z => by cases z) (fun z => by cases z) r5 r6 ?_ ?_ ?_)⟩⟩
           · exact fun i H2 x y e1 e2 q1 q2 => ⟨_, _, x, y, SqT.of e1, SqT.of e2, q1, q2⟩
           · exact fun i H2 e1 e2 q => ⟨_, _, SqT.of e1, SqT.of e2, q⟩
           · exact fun i H2 v H3 e1 e2 ⟨T, x, y, z1, z2, z3, z4, z5⟩ => ⟨T, x, y, z1, z2, z3, z4 _ (SqT.of e1), z5 _ (SqT.of e2)⟩)
theorem enum_get {P : Pt} {G H0 : Hp} {b : Bool} {vs : List V} {xs : List D} (r1 : RdL P (rg b G H0) vs xs) (i : Nat) (us : List V) (its : List DB)
    (q1 : ((List.range vs.length).zipWith (fun (i : Nat) v => [V.int i, v]) vs)[i]? = some us) (q2 : ((List.range xs.length).zipWith (fun (i : Nat) d => [((.int (i : Nat), true) : DB), (d, fl b d)]) xs)[i]? = some its) : RdB P G H0 us its := by
  rw [List.getElem?_zipWith] at q1 q2
  rw [r1.length] at q1
  cases e1 : (List.range xs.length)[i]? with
  | none => rw [e1] at q1; cases q1
  | some j =>
    cases e2 : vs[i]? with
    | none => rw [e1, e2] at q1; cases q1
    | some u =>
      obtain ⟨d, e3, r3⟩ := r1.getV e2
      rw [e1, e2] at q1
      rw [e1, e3] at q2
      cases q1
      cases q2
      exact ⟨.int _, r3.fl, trivial⟩
theorem itR_enum {P : Pt} {H0 G' H' : Hp} {J : It} {u : HO} {a : Addr} {vs : List V} {xs : List D} {b fz : Bool} (h : H' a = some u) (hs : a ≠ P.s) (hl : a ≠ P.l) (hf : fz = true → G' a = some u) (r : RdL P (rg b G' H0) vs xs)
    (go : ∀ i H2, H2 a = some u → i < vs.length → J.go i H2) (stop : ∀ i H2, H2 a = some u → vs.length ≤ i → J.stop i H2)
    (yld : ∀ i H2 v H3, H2 a = some u → J.yld i H2 v H3 → ∃ T x, v = .ref T ∧ H2 T = none ∧ H3 = upd H2 T (.tup [.int (i : Nat), x]) ∧ (i < vs.length → vs[i]? = some x)) :
    ItR P H0 G' H' J ((List.range xs.length).zipWith (fun (i : Nat) d => [((.int (i : Nat), true) : DB), (d, fl b d)]) xs) fz := by
  have ln : (List.zipWith (fun (i : Nat) d => [((.int (i : Nat), true) : DB), (d, fl b d)]) (List.range xs.length) xs).length = vs.length := by
    rw [List.length_zipWith, List.length_range, r.length, Nat.min_self]
  refine ⟨fun H2 => H2 a = some u, (List.range vs.length).zipWith (fun (i : Nat) v => [V.int i, v]) vs, fun H2 k => k _ _ h hs hl, fun z H2 g => g _ _ (hf z), by rw [ln, List.length_zipWith, List.length_range, Nat.min_self], enum_get r, fun i H2 st hi => go i H2 st (by rw [ln] at hi; exact hi), fun H2 st => stop _ H2 st (by rw [ln]; exact Nat.le_refl _), .inr fun i H2 v H3 st hy hi => ?_⟩
  rw [ln] at hi
  obtain ⟨T, x, e1, e2, e3, e4⟩ := yld i H2 v H3 st hy
  exact ⟨T, .int i, x, e1, e2, e3, by rw [List.getElem?_zipWith, List.getElem?_range hi, e4 hi]⟩
theorem xi_enum {tgs : List Expr} {kk : Nat} {tpos : Pos} {ea : Ev DB} (hg : Gl X "enumerate") (hm : X.mg "enumerate" = none) (ha : PE X a (tO cl ea)) (pa : plainX a = true) :
    PI X (.Tuple tgs kk tpos) (.Call (.Name "enumerate" p) [a] [] pos) (tI cl (fun f n k => ea f n fun x n1 => match x with
      | (.lst xs, b) => k ((List.range xs.length).zipWith (fun i d => [(.int (i : Nat), true), (d, fl b d)]) xs) n1
      | (.tup xs, b) => k ((List.range xs.length).zipWith (fun i d => [(.int (i : Nat), true), (d, fl b d)]) xs) n1
      | _ => False) false) := by
  refine (pi_enumA hg hm (pa_cons ha pa_nil (star_cons pa [] X.env)) (star_cons pa [] X.env)).imp fun σ H R ⟨P, G0, H0, W, n, f, G, K, hc, S, e, h⟩ => TR.one hc S e fun x n1 hx v G1 H1 S1 L1 r1 => ?_
  obtain ⟨x, bx⟩ := x
  cases x with
  | lst xs =>
    obtain ⟨p1, vs, rfl, s1, l1, h1, r1⟩ := r1
    refine ⟨p1, rfl, .inl ⟨⟨vs, SqL.of h1⟩, h _ _ hx _ G1 H1 S1 L1 (itR_enum h1 s1 l1 (fun z => by cases z) r1 (fun i H2 st hi => ⟨vs, vs[i], SqL.of st, List.getElem?_eq_getElem hi⟩) (fun i H2 st hi => ⟨vs, SqL.of st, hi⟩) fun i H2 v H3 st hy => ?_)⟩⟩
    obtain ⟨T, x, e1, e2, e3, e4⟩ := hy
    exact ⟨T, x, e1, e2, e3, fun _ => e4 vs (SqL.of st)⟩
  | tup xs =>
    have r1' : RdD P (rg bx G1 H0) v (.tup xs) := r1
    cases r1' with
    | tup h2 r2 =>
      have hg2 := rg_sub _ _ h2
      refine ⟨_, rfl, .inr ⟨⟨_, SqT.of (S1.bs.gh _ _ hg2)⟩, h _ _ hx _ G1 H1 S1 L1 (itR_enum (S1.bs.gh _ _ hg2) (S1.gne hg2).1 (S1.gne hg2).2 (fun z => by cases z) r2 (fun i H2 st hi => ⟨_, _, SqT.of st, List.getElem?_eq_getElem hi⟩) (fun i H2 st hi => ⟨_, SqT.of st, hi⟩) fun i H2 v H3 st hy => ?_)⟩⟩
      obtain ⟨T, x, e1, e2, e3, e4⟩ := hy
      exact ⟨T, x, e1, e2, e3, fun _ => e4 _ (SqT.of st)⟩
  | _ => exact (show False from hx).elim
end
end DL

set_option maxHeartbeats 4000000
/-! DL10: targets, comprehensions. -/
namespace DL
open PySem PySem.Spec PyProof.Rows L2

section
variable {P : Pt} {G0 H0 G H G' H' : Hp} {W : Nat → Addr → Prop} {n : Nat} {σ : L2.St} {f : Fr}
/-- a name gets a value -/
theorem SR.setV (S : SR P G0 H0 W n σ f G H) {i : Nat} {v : V} {d : D} {b : Bool} (r : RdD P (rg b G H0) v d) : SR P G0 H0 W n (σ.set i (some v)) (f.set i (.v d b)) G H := by
  refine ⟨S.bs, S.wk, by rw [List.length_set, List.length_set]; exact S.len, fun j s e => ?_⟩
  by_cases h : i = j
  · subst h
    have hi : i < f.length := by
      rcases Nat.lt_or_ge i f.length with z | z
      · exact z
      · rw [List.getElem?_eq_none (by rw [List.length_set]; exact z)] at e; cases e
    rw [List.getElem?_set_self hi] at e
    cases e
    rw [List.getElem?_set_self (by rw [S.len]; exact hi)]
    exact ⟨v, rfl, r⟩
  · rw [List.getElem?_set_ne h] at e ⊢
    exact S.sl j s e
theorem SR.setN (S : SR P G0 H0 W n σ f G H) {i : Nat} : SR P G0 H0 W n (σ.set i none) (f.set i .no) G H := by
  refine ⟨S.bs, S.wk, by rw [List.length_set, List.length_set]; exact S.len, fun j s e => ?_⟩
  by_cases h : i = j
  · subst h
    have hi : i < f.length := by
      rcases Nat.lt_or_ge i f.length with z | z
      · exact z
      · rw [List.getElem?_eq_none (by rw [List.length_set]; exact z)] at e; cases e
    rw [List.getElem?_set_self hi] at e
    cases e
    trivial
  · rw [List.getElem?_set_ne h] at e ⊢
    exact S.sl j s e
theorem SR.wipe (S : SR P G0 H0 W n σ f G H) : ∀ own : List Nat, SR P G0 H0 W n (L2.wipe σ own) (wipeF f own) G H
  | [] => S
  | v :: vs => (SR.wipe S vs).setN
/-- names get values, from the left -/
def gNs : List Nat → TGs
  | [] => gNil
  | t :: ts => gCons (gName t) (gNs ts)
theorem SR.setTs : ∀ {ts : List Nat} {rs : List DB} {vs : List V} {f f' : Fr} {σ : L2.St} {Q : L2.St → Hp → Prop}, SR P G0 H0 W n σ f G H → RdB P G H0 vs rs → setTs f ts rs = some f' → (∀ σ', SR P G0 H0 W n σ' f' G H → (∀ own, (∀ t ∈ ts, t ∈ own) → L2.wipe σ' own = L2.wipe σ own) → Q σ' H) → gNs ts vs σ H Q
  | [], [], [], _, _, _, _, S, _, e, h => by cases e; exact ⟨rfl, h _ S fun _ _ => rfl⟩
  | [], [], _ :: _, _, _, _, _, _, r, _, _ => r.elim
  | [], _ :: _, _, _, _, _, _, _, _, e, _ => by cases e
  | _ :: _, [], _, _, _, _, _, _, _, e, _ => by cases e
  | _ :: _, _ :: _, [], _, _, _, _, _, r, _, _ => r.elim
  | t :: ts, x :: xs, v :: vs, f, f', σ, Q, S, r, e, h => by
    refine ⟨v, vs, rfl, ?_⟩
    show gNs ts vs (σ.set t (some v)) H Q
    refine SR.setTs (S.setV r.1) r.2 e fun σ' S' hw => h σ' S' fun own ho => ?_
    rw [hw own fun t' h' => ho t' (List.mem_cons_of_mem _ h')]
    have key : ∀ (own : List Nat) (σ : L2.St), t ∈ own → L2.wipe (σ.set t (some v)) own = L2.wipe σ own := by
      intro own
      induction own with
      | nil => intro σ hm; cases hm
      | cons o os ih =>
        intro σ hm
        unfold L2.wipe
        by_cases ho : t ∈ os
        · rw [ih σ ho]
        · have : t = o := by
            rcases List.mem_cons.mp hm with z | z
            · exact z
            · exact absurd z ho
          subst this
          have out : ∀ (os : List Nat) (σ : L2.St), t ∉ os → L2.wipe (σ.set t (some v)) os = (L2.wipe σ os).set t (some v) := by
            intro os
            induction os with
            | nil => intro σ _; rfl
            | cons o os ih =>
              intro σ hn
              unfold L2.wipe
              rw [ih σ (fun z => hn (List.mem_cons_of_mem _ z)), List.set_comm _ _ (fun z => hn (by rw [z]; exact List.mem_cons_self))]
          rw [out os σ ho, List.set_set]
    exact key own σ (ho t List.mem_cons_self)
/-- an object that is no one's but the loop's is changed -/
theorem SR.upd (S : SR P G0 H0 W n σ f G H) {q : Addr} {o : HO} (g : G q = none) (h0 : H0 q = none) (w : ∀ i, ¬ W i q) (s1 : q ≠ P.s) (s2 : q ≠ P.l) (sp : ∀ (i : Nat) (d : D), f[i]? = some (Sl.sep d) → ∀ xs, H q ≠ some (.tup xs)) : SR P G0 H0 W n σ f G (L2.upd H q o) := by
  have gh : Sub G (L2.upd H q o) := fun a u e => by
    have : a ≠ q := fun z => by rw [z, g] at e; cases e
    rw [upd_ne this]; exact S.bs.gh a u e
  refine ⟨⟨gh, S.bs.g0, S.bs.gx, fun a u e x y => ?_, S.bs.st.upd s1 s2, S.bs.gs, S.bs.gl⟩, ⟨S.wk.inj, fun i a z => ?_, S.wk.g, S.wk.h0, S.wk.s, fun i a z ys e => ?_⟩, S.len, fun i s e => ?_⟩
  · have : a ≠ q := fun z => by rw [z, h0] at e; cases e
    rw [upd_ne this]; exact S.bs.h0 a u e x y
  · have : a ≠ q := fun y => w i (by rw [← y]; exact z)
    rw [upd_ne this]; exact S.wk.h i a z
  · have : a ≠ q := fun y => w i (by rw [← y]; exact z)
    rw [upd_ne this] at e; exact S.wk.nt i a z ys e
  · have r := S.sl i s e
    have ne : ∀ p, W i p → p ≠ q := fun p z y => w i (by rw [← y]; exact z)
    cases s with
    | no => trivial
    | v d b => exact r
    | l xs b => obtain ⟨p, vs, e1, w1, h1, r1⟩ := r; exact ⟨p, vs, e1, w1, by rw [upd_ne (ne p w1)]; exact h1, r1⟩
    | k ks xs b => obtain ⟨p, vs, e1, w1, h1, l1, r1⟩ := r; exact ⟨p, vs, e1, w1, by rw [upd_ne (ne p w1)]; exact h1, l1, r1⟩
    | kt ks xs b => obtain ⟨p, vs, e1, w1, h1, l1, r1⟩ := r; exact ⟨p, vs, e1, w1, by rw [upd_ne (ne p w1)]; exact h1, l1, r1⟩
    | o c ns xs b => obtain ⟨p, C, dx, cs, vs, e1, w1, hc, h1, l1, r1⟩ := r; exact ⟨p, C, dx, cs, vs, e1, w1, hc, by rw [upd_ne (ne p w1)]; exact h1, l1, r1⟩
    | scr => exact r
    | sep d =>
      obtain ⟨v, Sg, e1, r1, h1, m⟩ := r
      refine ⟨v, Sg, e1, r1, fun a u z => ?_, m⟩
      have ho := h1 a u z
      have : a ≠ q := fun y => by
        rcases m a u z with ⟨xs, rfl⟩ | w1
        · exact sp i d e xs (by rw [← y]; exact ho)
        · exact ne a w1 y
      rw [upd_ne this]; exact ho
end

section
variable {X : Cx} {cl : Cls0} {N : List Str}
/-- the names of a scope that may be stored -/
def StoreOk (X : Cx) (N : List Str) (sc0 : Scope) : Prop := X.N = N ∧ N.Nodup ∧ ∀ x, (sc0.names.lookup x = some .local ∨ sc0.names.lookup x = some .cell) → Loc X.env.scope x ∧ (X.fn x = true ∨ X.env.scope.names.lookup x = some .local)
theorem locN_of {sc : Scope} {i : Nat} {x : Str} (h : locN N sc i x = true) : N[i]? = some x ∧ (sc.names.lookup x = some .local ∨ sc.names.lookup x = some .cell) := by
  unfold locN at h
  obtain ⟨h1, _⟩ := Bool.and_eq_true_iff.mp h
  obtain ⟨h2, h3⟩ := Bool.and_eq_true_iff.mp h1
  refine ⟨of_decide_eq_true h2, ?_⟩
  split at h3
  · exact .inl (by assumption)
  · exact .inr (by assumption)
  · cases h3
theorem pg_one {sc : Scope} {i : Nat} {x : Str} {p : Pos} (so : StoreOk X N sc) (h : locN N sc i x = true) : PG X (.Name x p) (gName i) := by
  obtain ⟨h1, h2⟩ := locN_of h
  obtain ⟨e, nd, hs⟩ := so
  obtain ⟨a, b⟩ := hs x h2
  exact pg_name (by rw [e]; exact nd) (by rw [e]; exact h1) a b
theorem pgs_of {sc : Scope} (so : StoreOk X N sc) : ∀ {ts : List Nat} {es : List Expr}, chkTs N sc ts es = true → PGs X es (gNs ts) ∧ es.length = ts.length
  | [], [], _ => ⟨pgs_nil, rfl⟩
  | [], _ :: _, h => absurd h Bool.false_ne_true
  | _ :: _, [], h => absurd h Bool.false_ne_true
  | t :: ts, e :: es, h => by
    cases e with
    | Name x p =>
      have h' : (locN N sc t x && chkTs N sc ts es) = true := h
      obtain ⟨h1, h2⟩ := Bool.and_eq_true_iff.mp h'
      obtain ⟨h3, h4⟩ := pgs_of so h2
      exact ⟨pgs_cons (pg_one so h1) h3, by rw [List.length_cons, List.length_cons, h4]⟩
    | _ => exact absurd h Bool.false_ne_true
theorem assigns_of {sc : Scope} {env : Env} : ∀ {ts : List Nat} {es : List Expr}, chkTs N sc ts es = true → (assignEach es env).length = es.length ∧ (assignEach es env).findIdx? (·.1) = none
  | [], [], _ => ⟨rfl, rfl⟩
  | [], _ :: _, h => absurd h Bool.false_ne_true
  | _ :: _, [], h => absurd h Bool.false_ne_true
  | t :: ts, e :: es, h => by
    cases e with
    | Name x p =>
      have h' : (locN N sc t x && chkTs N sc ts es) = true := h
      obtain ⟨h1, h2⟩ := Bool.and_eq_true_iff.mp h'
      obtain ⟨h3, h4⟩ := assigns_of (env := env) h2
      refine ⟨by show (assignEach es env).length + 1 = es.length + 1; rw [h3], ?_⟩
      show ((false, assign (.Name x p) env) :: assignEach es env).findIdx? (·.1) = none
      rw [List.findIdx?_cons, h4]; rfl
    | _ => exact absurd h Bool.false_ne_true
/-- a target's reading -/
def gOf (K : PySem.W.Frag) (ts : List Nat) : Expr → TG
  | .Name _ _ => gName (ts.headD 0)
  | _ => gTup K ts.length (gNs ts)
theorem chkTg_cases {sc : Scope} {ts : List Nat} {tg : Expr} (h : chkTg N sc ts tg = true) : (∃ t x p, ts = [t] ∧ tg = .Name x p ∧ locN N sc t x = true) ∨ (ts.length ≠ 1 ∧ ∃ es k p, tg = .Tuple es k p ∧ chkTs N sc ts es = true) := by
  cases ts with
  | nil =>
    refine .inr ⟨by decide, ?_⟩
    cases tg <;> first
      | exact absurd h Bool.false_ne_true
      | exact ⟨_, _, _, rfl, h⟩
  | cons t r =>
    cases r with
    | nil =>
      refine .inl ?_
      cases tg <;> first
        | exact absurd h Bool.false_ne_true
        | exact ⟨_, _, _, rfl, rfl, h⟩
    | cons t2 r =>
      refine .inr ⟨by simp, ?_⟩
      cases tg <;> first
        | exact absurd h Bool.false_ne_true
        | exact ⟨_, _, _, rfl, h⟩
theorem pg_of {sc : Scope} {ts : List Nat} {tg : Expr} (so : StoreOk X N sc) (hc : X.calm = true) (h : chkTg N sc ts tg = true) : PG X tg (gOf X.K ts tg) := by
  rcases chkTg_cases h with ⟨t, x, p, rfl, rfl, h⟩ | ⟨_, es, k, p, rfl, h'⟩
  · exact pg_one so h
  · obtain ⟨h1, h2⟩ := pgs_of so h'
    obtain ⟨h3, h4⟩ := assigns_of (env := X.env) h'
    exact pg_tup hc h1 (h3.trans h2) h4
theorem bindT_tup {f : Fr} {ts : List Nat} {xs : List D} {b : Bool} (h : ts.length ≠ 1) : bindT f ts [(.tup xs, b)] = setTs f ts (xs.map fun d => (d, fl b d)) := by
  cases ts with
  | nil => rfl
  | cons t r => cases r with
    | nil => exact absurd rfl h
    | cons t2 r => rfl
theorem bindT_two {f : Fr} {ts : List Nat} {r q : DB} : bindT f ts [r, q] = setTs f ts [r, q] := by
  obtain ⟨d, b⟩ := r
  cases ts with
  | nil => cases d <;> rfl
  | cons t ts => cases ts <;> cases d <;> rfl
theorem setTs_len : ∀ {ts : List Nat} {rs : List DB} {f f' : Fr}, setTs f ts rs = some f' → rs.length = ts.length
  | [], [], _, _, _ => rfl
  | [], _ :: _, _, _, e => by cases e
  | _ :: _, [], _, _, e => by cases e
  | t :: ts, r :: rs, f, f', e => by rw [List.length_cons, List.length_cons, setTs_len (ts := ts) (rs := rs) e]
theorem bindT_one {f f' : Fr} {ts : List Nat} {r : DB} (h : ts.length ≠ 1) (e : bindT f ts [r] = some f') : ∃ xs, r.1 = .tup xs := by
  obtain ⟨d, b⟩ := r
  cases d with
  | tup xs => exact ⟨xs, rfl⟩
  | _ =>
    exfalso
    cases ts with
    | nil => cases e
    | cons t ts => cases ts with
      | nil => exact h rfl
      | cons t2 ts => exact absurd (setTs_len (ts := t :: t2 :: ts) e) (by simp)
theorem RdB.len {P : Pt} {G H0 : Hp} : ∀ {vs : List V} {rs : List DB}, RdB P G H0 vs rs → vs.length = rs.length
  | [], [], _ => rfl
  | _ :: _, _ :: _, h => by rw [List.length_cons, List.length_cons, RdB.len h.2]
  | [], _ :: _, h => h.elim
  | _ :: _, [], h => h.elim
theorem rdB_all {P : Pt} {G H0 : Hp} {b : Bool} : ∀ {vs : List V} {xs : List D}, RdL P (rg b G H0) vs xs → RdB P G H0 vs (xs.map fun d => (d, fl b d))
  | _, _, .nil => trivial
  | _, _, .cons q qs => ⟨q.fl, rdB_all qs⟩
/-- one turn's store: what the iterator gives goes to the names -/
theorem bind_ok {KK : PySem.W.Frag} {P : Pt} {G0 H0 G H : Hp} {W : Nat → Addr → Prop} {n : Nat} {σ : L2.St} {f f' : Fr} {J : It} {items : List (List DB)} {ts : List Nat} {tg : Expr} {sc : Scope} {St : Hp → Prop} {vss : List (List V)} {i : Nat} {its : List DB} {v : V} {H3 : Hp} {Q : L2.St → Hp → Prop}
    (S : SR P G0 H0 W n σ f G H) (htg : chkTg N sc ts tg = true) (hst : St H)
    (hr : ∀ (i : Nat) vs its, vss[i]? = some vs → items[i]? = some its → RdB P G H0 vs its)
    (hy : (∀ i H2 v H3, St H2 → J.yld i H2 v H3 → i < items.length → H3 = H2 ∧ vss[i]? = some [v]) ∨
      (∀ i H2 v H3, St H2 → J.yld i H2 v H3 → i < items.length → ∃ T x y, v = .ref T ∧ H2 T = none ∧ H3 = upd H2 T (.tup [x, y]) ∧ vss[i]? = some [x, y]))
    (hi : items[i]? = some its) (y : J.yld i H v H3) (hb : bindT f ts its = some f')
    (hQ : ∀ σ' H', SR P G0 H0 W n σ' f' G H' → Le P G H G H' → (∀ own, (∀ t ∈ ts, t ∈ own) → L2.wipe σ' own = L2.wipe σ own) → Q σ' H') : gOf KK ts tg v σ H3 Q := by
  have hlt : i < items.length := by
    rcases Nat.lt_or_ge i items.length with z | z
    · exact z
    · rw [List.getElem?_eq_none z] at hi; cases hi
  have tup : ∀ {a : Addr} {xs : List V} {rs : List DB} {H' : Hp}, SR P G0 H0 W n σ f G H' → Le P G H G H' → H' a = some (.tup xs) → RdB P G H0 xs rs → setTs f ts rs = some f' → gTup KK ts.length (gNs ts) (.ref a) σ H' Q := fun {a xs rs H'} S' L' h1 h2 h3 =>
    ⟨a, xs, rfl, SqT.of h1, h2.len.trans (setTs_len h3), SR.setTs S' h2 h3 fun σ' S2 hw => hQ σ' H' S2 L' hw⟩
  rcases chkTg_cases htg with ⟨t, x, p, rfl, rfl, _⟩ | ⟨h1, es, k, p, rfl, h'⟩
  · rcases hy with hy | hy
    · obtain ⟨e3, ev⟩ := hy i H v H3 hst y hlt
      subst e3
      have rb := hr i [v] its ev hi
      cases its with
      | nil => exact rb.elim
      | cons r rs =>
        cases rs with
        | cons _ _ => exact rb.2.elim
        | nil =>
          cases hb
          refine hQ _ H3 (S.setV rb.1) Le.rfl' fun own ho => ?_
          obtain ⟨w, r', e, q⟩ := @SR.setTs P G0 H0 G H3 W n [t] [r] [v] f _ σ (fun σ' _ => ∀ own, (∀ t' ∈ [t], t' ∈ own) → L2.wipe σ' own = L2.wipe σ own) S ⟨rb.1, trivial⟩ rfl fun σ' _ hw => hw
          cases e
          exact q.2 own ho
    · obtain ⟨T, x1, y1, e1, e2, e3, ev⟩ := hy i H v H3 hst y hlt
      have rb := hr i _ its ev hi
      cases its with
      | nil => exact rb.elim
      | cons r rs => cases rs with
        | nil => exact rb.2.elim
        | cons r2 rs => cases rs with
          | cons _ _ => exact rb.2.2.elim
          | nil => rw [bindT_two] at hb; cases hb
  · show gTup KK ts.length (gNs ts) v σ H3 Q
    rcases hy with hy | hy
    · obtain ⟨e3, ev⟩ := hy i H v H3 hst y hlt
      subst e3
      have rb := hr i [v] its ev hi
      cases its with
      | nil => exact rb.elim
      | cons r rs =>
        cases rs with
        | cons _ _ => exact rb.2.elim
        | nil =>
          obtain ⟨xs, e⟩ := bindT_one h1 hb
          obtain ⟨d, b⟩ := r
          cases e
          rw [bindT_tup h1] at hb
          have r1 : RdD P (rg b G H0) v (.tup xs) := rb.1
          cases r1 with
          | tup h2 r2 => exact tup S Le.rfl' (S.bs.gh _ _ (rg_sub _ _ h2)) (rdB_all r2) hb
    · obtain ⟨T, x1, y1, e1, e2, e3, ev⟩ := hy i H v H3 hst y hlt
      subst e1 e3
      have rb := hr i _ its ev hi
      cases its with
      | nil => exact rb.elim
      | cons r rs => cases rs with
        | nil => exact rb.2.elim
        | cons r2 rs => cases rs with
          | cons _ _ => exact rb.2.2.elim
          | nil =>
            rw [bindT_two] at hb
            exact tup (S.newO e2) (Le.own e2) upd_same rb hb
end
end DL

set_option maxHeartbeats 4000000
/-! DL11: comprehensions. -/
namespace DL
open PySem PySem.Spec PyProof.Rows L2

section
variable {X : Cx} {cl : Cls0} {N : List Str}
theorem wipe_wipe (σ : L2.St) (own : List Nat) : L2.wipe (L2.wipe σ own) own = L2.wipe σ own := by
  have char : ∀ (own : List Nat) (σ : L2.St) (i : Nat), (L2.wipe σ own)[i]? = if i ∈ own then (σ[i]?).map fun _ => none else σ[i]? := by
    intro own
    induction own with
    | nil => intro σ i; rw [if_neg (by simp)]; rfl
    | cons o os ih =>
      intro σ i
      unfold L2.wipe
      by_cases h : o = i
      · subst h
        rw [if_pos List.mem_cons_self, List.getElem?_set]
        rw [if_pos rfl]
        by_cases hl : o < (L2.wipe σ os).length
        · rw [if_pos hl]
          rw [L2.wipe_length] at hl
          rw [List.getElem?_eq_getElem hl]; rfl
        · rw [if_neg hl]
          rw [L2.wipe_length] at hl
          rw [List.getElem?_eq_none (by omega)]; rfl
      · rw [List.getElem?_set_ne h, ih σ i]
        by_cases hm : i ∈ os
        · rw [if_pos hm, if_pos (List.mem_cons_of_mem _ hm)]
        · rw [if_neg hm, if_neg (fun z => by
            rcases List.mem_cons.mp z with z | z
            · exact h z.symm
            · exact hm z)]
  refine List.ext_getElem? fun i => ?_
  rw [char own _ i, char own σ i]
  by_cases h : i ∈ own
  · rw [if_pos h, if_pos h, Option.map_map]; rfl
  · rw [if_neg h, if_neg h]
theorem itR_later {P : Pt} {H0 G' H' : Hp} {J : It} {items : List (List DB)} {fz : Bool} (h : ItR P H0 G' H' J items fz) : ∃ (St : Hp → Prop) (vss : List (List V)),
  (∀ H2, (∀ a o, H' a = some o → a ≠ P.s → a ≠ P.l → H2 a = some o) → St H2) ∧ vss.length = items.length ∧ (∀ (i : Nat) vs its, vss[i]? = some vs → items[i]? = some its → RdB P G' H0 vs its) ∧
  (∀ i H2, St H2 → i < items.length → J.go i H2) ∧ (∀ H2, St H2 → J.stop items.length H2) ∧
  ((∀ i H2 v H3, St H2 → J.yld i H2 v H3 → i < items.length → H3 = H2 ∧ vss[i]? = some [v]) ∨
   (∀ i H2 v H3, St H2 → J.yld i H2 v H3 → i < items.length → ∃ T x y, v = .ref T ∧ H2 T = none ∧ H3 = upd H2 T (.tup [x, y]) ∧ vss[i]? = some [x, y])) := by
  obtain ⟨St, vss, a, _, b, c, d, e, f⟩ := h
  exact ⟨St, vss, a, b, c, d, e, f⟩
/-- the comprehension's reading -/
theorem lc_ok {KK : PySem.W.Frag} {ei : EvI} {et : Ev Bool} {ee : Ev DB} {ts own : List Nat} {tg : Expr} {sc : Scope} {fz : Bool} (htg : chkTg N sc ts tg = true) (hown : ∀ t ∈ ts, t ∈ own) {σ : L2.St} {H : Hp} {Q : VK}
    (h : tL cl (fun f n k => ei f n fun items n1 => compGo (fun vs n k => ∃ f', bindT (wipeF f own) ts vs = some f' ∧ et f' n fun t n1 => if t = true then ee f' n1 fun r n2 => k (some r) n2 else k none n1) items [] true n1 k) σ H Q) :
    tLc (tI cl ei fz) (gOf KK ts tg) (tT cl et) (tE cl ee) own σ H Q := by
  obtain ⟨P, G0, H0, W, n, f, G, K, hc, S, e, h⟩ := h
  refine ⟨P, G0, H0, W, n, f, G, _, hc, S, e, fun items n1 hit J G1 H1 S1 L1 hJ => ?_⟩
  intro Dq hD
  obtain ⟨St, vss, st1, hvl, hvr, hgo, hstop, hyld⟩ := itR_later hJ
  have g1D : G1 Dq = none := by
    cases z : G1 Dq with
    | none => rfl
    | some o => rw [S1.bs.gh _ _ z] at hD; cases hD
  have sneD := S1.bs.sne hD
  have h0D := S1.bs.h0n hD
  have wD : ∀ i, ¬ W i Dq := fun i w => S1.wk.h i Dq w hD
  -- the invariant
  refine ⟨fun i m H' => ∃ (accD : List D) (accV : List V) (b : Bool) (G' : Hp) (n' : Nat), m = items.length - i ∧ i ≤ items.length ∧ SR P G0 H0 W n' σ f G' H' ∧ Le P G1 H1 G' H' ∧ H' Dq = some (.lst accV) ∧ G' Dq = none ∧ RdL P (rg b G' H0) accV accD ∧
    compGo (fun vs n k => ∃ f', bindT (wipeF f own) ts vs = some f' ∧ et f' n fun t n1 => if t = true then ee f' n1 fun r n2 => k (some r) n2 else k none n1) (items.drop i) accD b n' (fun xs b n' => K (xs, b) n'), ⟨items.length, [], [], true, G1, n1, by simp, Nat.zero_le _, S1.newO hD, Le.own hD, upd_same, g1D, .nil, hit⟩, ?_⟩
  rintro i m H' ⟨accD, accV, b, G', n', rfl, hi, S', L', hDa, gD, racc, run⟩
  have stH : St H' := st1 H' L'.h
  by_cases hlt : i < items.length
  · refine .inr ⟨hgo i H' stH hlt, fun H'' => ∃ (accD : List D) (accV : List V) (b : Bool) (G' : Hp) (n' : Nat), SR P G0 H0 W n' σ f G' H'' ∧ Le P G1 H1 G' H'' ∧ H'' Dq = some (.lst accV) ∧ G' Dq = none ∧ RdL P (rg b G' H0) accV accD ∧
      compGo (fun vs n k => ∃ f', bindT (wipeF f own) ts vs = some f' ∧ et f' n fun t n1 => if t = true then ee f' n1 fun r n2 => k (some r) n2 else k none n1) (items.drop (i + 1)) accD b n' (fun xs b n' => K (xs, b) n'),
      fun H'' ⟨a1, a2, a3, a4, a5, a6, a7, a8, a9, a10, a11⟩ => ⟨items.length - (i + 1), by omega, a1, a2, a3, a4, a5, rfl, hlt, a6, a7, a8, a9, a10, a11⟩, fun x H3 hy => ?_⟩
    rw [List.drop_eq_getElem_cons hlt] at run
    obtain ⟨f', hb, run⟩ := run
    have Sw := S'.wipe own
    refine bind_ok (N := N) (sc := sc) Sw htg stH (fun j vs its q1 q2 => (hvr j vs its q1 q2).mono L'.g) hyld (List.getElem?_eq_getElem hlt) hy hb fun σ2 H2 S2 L2 hw => ⟨by rw [hw own hown, wipe_wipe], ?_⟩
    refine ⟨P, G0, H0, W, n', f', G', _, hc, S2, run, fun t n3 ht v G3 H4 S3 L3 r3 => ?_⟩
    cases (show v = t from r3)
    -- back to the names outside
    have back : ∀ {G5 H5 : Hp} {n5 : Nat}, SR P G0 H0 W n5 σ2 f' G5 H5 → Le P G' H2 G5 H5 → SR P G0 H0 W n5 σ f G5 H5 ∧ Le P G1 H1 G5 H5 ∧ H5 Dq = some (.lst accV) ∧ G5 Dq = none := fun {G5 H5 n5} S5 L5 => by
      have L6 : Le P G' H' G5 H5 := Le.trans S'.bs S2.bs.st L2 L5
      refine ⟨S'.le L6 S5.bs.gh S5.bs.st, Le.trans S1.bs S'.bs.st L' L6, L6.h _ _ hDa sneD.1 sneD.2, ?_⟩
      rcases L6.gx Dq (by rw [hDa]; simp) with z | ⟨ys, z⟩
      · exact z.trans gD
      · rw [hDa] at z; cases z
    cases t with
    | false =>
      refine iteF ?_
      obtain ⟨b1, b2, b3, b4⟩ := back S3 L3
      exact ⟨accD, accV, b, G3, n3, b1, b2, b3, b4, racc.mono (rg_mono (fun a o z => L3.g a o z)), by simpa using ht⟩
    | true =>
      refine iteT ?_
      have ht' : ee f' n3 fun r n2 => accD.length < sizeLine ∧ compGo (fun vs n k => ∃ f', bindT (wipeF f own) ts vs = some f' ∧ et f' n fun t n1 => if t = true then ee f' n1 fun r n2 => k (some r) n2 else k none n1) (items.drop (i + 1)) (accD ++ [r.1]) (b && r.2) n2 (fun xs b n' => K (xs, b) n') := by simpa using ht
      refine ⟨P, G0, H0, W, n3, f', G3, _, hc, S3, ht', fun r n4 ⟨hl, hr⟩ v G4 H5 S4 L4 r4 => ?_⟩
      obtain ⟨b1, b2, b3, b4⟩ := back S4 (Le.trans S2.bs S3.bs.st L3 L4)
      refine ⟨accV, b3, by rw [racc.length]; exact hl, accD ++ [r.1], accV ++ [v], b && r.2, G4, n4, b1.upd b4 h0D wD sneD.1 sneD.2 (fun _ _ _ xs z => by rw [b3] at z; cases z), ?_, upd_same, b4, ?_, hr⟩
      · refine ⟨b2.g, b2.gx, fun a o z s1 s2 => ?_⟩
        have : a ≠ Dq := fun y => by rw [y, hD] at z; cases z
        rw [upd_ne this]; exact b2.h a o z s1 s2
      · have r4' : RdD P (rg r.2 G4 H0) v r.1 := r4
        refine RdL.append ((racc.mono (rg_mono fun a o z => L4.g a o (L3.g a o z))).mono (rg_le fun z => (Bool.and_eq_true_iff.mp z).1)) (.cons (r4'.mono (rg_le fun z => (Bool.and_eq_true_iff.mp z).2)) .nil)
  · have ei : i = items.length := by omega
    subst ei
    refine .inl ⟨hstop H' stH, ?_⟩
    rw [List.drop_length] at run
    exact h (accD, b) n' run (.ref Dq) G' H' S' (Le.trans S.bs S1.bs.st L1 L') ⟨Dq, accV, rfl, L1.none S.bs.st S1.bs.st hD, gD, hDa, racc⟩
end
end DL

set_option maxHeartbeats 8000000
/-! DLS1: what _law_spoilt does. -/
namespace DL
open PySem PySem.Spec PyProof.Rows L2

abbrev late : V := .str "late"
theorem muts_get : ∀ {xs : List D} {i : Nat} {x : D}, D.muts xs = true → xs[i]? = some x → x.mut = true
  | y :: ys, 0, x, h, e => by cases e; unfold D.muts at h; exact (Bool.and_eq_true_iff.mp h).1
  | y :: ys, i + 1, x, h, e => by unfold D.muts at h; exact muts_get (i := i) (Bool.and_eq_true_iff.mp h).2 e
theorem deps_get : ∀ {xs : List D} {i : Nat} {x : D}, xs[i]? = some x → x.dep ≤ D.deps xs
  | y :: ys, 0, x, e => by cases e; unfold D.deps; exact Nat.le_max_left _ _
  | y :: ys, i + 1, x, e => by unfold D.deps; exact Nat.le_trans (deps_get (i := i) e) (Nat.le_max_right _ _)
theorem nods_take : ∀ {xs : List D} {i : Nat} {x : D}, xs[i]? = some x → D.nods (xs.take (i + 1)) = D.nods (xs.take i) + x.nod
  | y :: ys, 0, x, e => by cases e; unfold D.nods; simp [D.nods]
  | y :: ys, i + 1, x, e => by
    have h := nods_take (xs := ys) (i := i) e
    rw [List.take_succ_cons, List.take_succ_cons]
    unfold D.nods
    rw [h]; omega
theorem nods_le : ∀ (xs : List D) (i : Nat), D.nods (xs.take i) ≤ D.nods xs
  | [], i => by simp
  | y :: ys, 0 => by rw [List.take_zero]; exact Nat.zero_le _
  | y :: ys, i + 1 => by
    rw [List.take_succ_cons]
    unfold D.nods
    have := nods_le ys i
    omega
section
variable {P : Pt} {S : Hp}
mutual
theorem RdD.fn : ∀ {v : V} {d d' : D}, RdD P S v d → RdD P S v d' → d.mut = true → d'.mut = true → d = d'
  | _, _, _, .non, r', _, _ => by cases r'; rfl
  | _, _, _, .bl b, r', _, _ => by cases r'; rfl
  | _, _, _, .int b, r', _, _ => by cases r'; rfl
  | _, _, _, .str b, r', _, _ => by cases r'; rfl
  | _, _, _, .strm, r', h, _ => absurd h (by unfold D.mut; exact Bool.false_ne_true)
  | _, _, _, .dic _ _ _, r', h, _ => absurd h (by unfold D.mut; exact Bool.false_ne_true)
  | _, _, _, .dit _ _ _, r', h, _ => absurd h (by unfold D.mut; exact Bool.false_ne_true)
  | _, _, _, .ins _ _ _ _, r', h, _ => absurd h (by unfold D.mut; exact Bool.false_ne_true)
  | _, .lst xs, d', .lst e r, r', h, h' => by
    unfold D.mut at h
    cases r' with
    | lst e' s =>
      unfold D.mut at h'
      rw [e] at e'
      cases e'
      rw [RdL.fn r s h h']
    | tup e' s => rw [e] at e'; cases e'
    | _ => exact absurd h' (by unfold D.mut; exact Bool.false_ne_true)
  | _, .tup xs, d', .tup e r, r', h, h' => by
    unfold D.mut at h
    cases r' with
    | tup e' s =>
      unfold D.mut at h'
      rw [e] at e'
      cases e'
      rw [RdL.fn r s h h']
    | lst e' s => rw [e] at e'; cases e'
    | _ => exact absurd h' (by unfold D.mut; exact Bool.false_ne_true)
theorem RdL.fn : ∀ {vs : List V} {ds ds' : List D}, RdL P S vs ds → RdL P S vs ds' → D.muts ds = true → D.muts ds' = true → ds = ds'
  | _, _, _, .nil, r', _, _ => by cases r'; rfl
  | _, _, _, .cons r rs, r', h, h' => by
    cases r' with
    | cons s ss =>
      unfold D.muts at h h'
      obtain ⟨h1, h2⟩ := Bool.and_eq_true_iff.mp h
      obtain ⟨h3, h4⟩ := Bool.and_eq_true_iff.mp h'
      rw [RdD.fn r s h1 h3, RdL.fn rs ss h2 h4]
end
end
/-- what is made longer: the lists beneath -/
def Md (P : Pt) (S : Hp) (m : Nat) (a : Addr) : Prop := ∃ d, RdD P S (.ref a) d ∧ d.mut = true ∧ d.dep ≤ m ∧ ∃ vs, S a = some (.lst vs)
theorem Md.mono {P : Pt} {S : Hp} {m m' : Nat} {a : Addr} (h : Md P S m a) (l : m ≤ m') : Md P S m' a := by
  obtain ⟨d, r, h1, h2, h3⟩ := h
  exact ⟨d, r, h1, Nat.le_trans h2 l, h3⟩
/-- S stands in H, its lists longer by some words; B more may come -/
structure Spd (S H : Hp) (B : Nat) : Prop where
  l : ∀ a vs, S a = some (.lst vs) → ∃ k, H a = some (.lst (vs ++ List.replicate k late)) ∧ vs.length + k + B ≤ sizeLine
  t : ∀ a vs, S a = some (.tup vs) → H a = some (.tup vs)
theorem Spd.less {S H : Hp} {B B' : Nat} (h : Spd S H B) (l : B' ≤ B) : Spd S H B' :=
  ⟨fun a vs e => by obtain ⟨k, h1, h2⟩ := h.l a vs e; exact ⟨k, h1, by omega⟩, h.t⟩
def spSpoil (m : Nat) : Sp := fun vs H Q _ => ∃ (P : Pt) (S : Hp) (d : D) (v : V) (B : Nat), vs = [v] ∧ RdD P S v d ∧ d.mut = true ∧ d.dep ≤ m ∧ d.nod ≤ B ∧ Spd S H B ∧
  ∀ H', Spd S H' (B - d.nod) → (∀ a o, H a = some o → ¬ Md P S d.dep a → H' a = some o) → Q .non H'
theorem Spd.ty {P : Pt} {K : PySem.W.Frag} {S H : Hp} {B : Nat} {v : V} {d : D} (h : Spd S H B) (r : RdD P S v d) (hm : d.mut = true) : TyX K H v (.type d.ty) := by
  cases r with
  | non => exact .base .non
  | bl b => exact .base (.bl b)
  | int i => exact .base (.int i)
  | str x => exact .base (.str x)
  | lst e r => obtain ⟨k, h1, _⟩ := h.l _ _ e; exact .base (.lst h1)
  | tup e r => exact .base (.tup (h.t _ _ e))
  | _ => exact absurd hm (by unfold D.mut; exact Bool.false_ne_true)
theorem Spd.new {S H : Hp} {B : Nat} {p : Addr} {o : HO} (h : Spd S H B) (hp : H p = none) : Spd S (upd H p o) B := by
  refine ⟨fun a vs e => ?_, fun a vs e => ?_⟩
  · obtain ⟨k, h1, h2⟩ := h.l a vs e
    have : a ≠ p := fun z => by rw [z, hp] at h1; cases h1
    exact ⟨k, by rw [upd_ne this]; exact h1, h2⟩
  · have h1 := h.t a vs e
    have : a ≠ p := fun z => by rw [z, hp] at h1; cases h1
    rw [upd_ne this]; exact h1
def D.kd' : D → Bool
  | .strm => false
  | .ins _ _ => false
  | _ => true
/-! ### its parts -/
abbrev tru (K : PySem.W.Frag) (ta : TE) : TT := fun σ H Q => ta σ H fun x H' => ∃ k, TruV K x H' k ∧ Q k H'
abbrev tIsi (K : PySem.W.Frag) (n : String) : TE := tCB (rIsi K) (tCons (tVar 0) (tCons (tC (.ty n)) tNil))
abbrev tIsiLT (K : PySem.W.Frag) : TE := tCB (rIsiT K) (tCons (tVar 0) (tCons (tTup (tCons (tC (.ty "list")) (tCons (tC (.ty "tuple")) tNil))) tNil))
abbrev tNo : TS := fun _ _ _ => False
def tSeqI (K : PySem.W.Frag) (tl : TE) : TI := fun σ H R => tl σ H fun x H1 => ∃ a, x = .ref a ∧ (((∃ xs, SqL K H1 a xs) ∧ R (Itl K a) H1) ∨ ((∃ xs, SqT K H1 a xs) ∧ R (Itt K a) H1))
def tSpl (K : PySem.W.Frag) (ti : TS) : TS := tSeq (tIfS (tru K (tIsi K "dict")) tNo tNext) (tSeq (tIfS (tru K (tIsiLT K)) ti tNext) (tIfS (tru K (tIsi K "list")) (fun D σ H => tBM K "list" rAppend (tVar 0) (tCons (tC late) tNil) σ H fun _ H1 => D.nx σ H1) tNext))
def tSpFor (K : PySem.W.Frag) (m : Nat) : TS := tFor (tSeqI K (tVar 0)) (gName 2) fun D σ H => tCall (spSpoil m) [] (fun _ _ _ => False) (tCons (tVar 2) tNil) σ H fun _ H1 => D.nx σ H1
theorem isi_ok {K : PySem.W.Frag} {σ : L2.St} {H : Hp} {Q : Bool → Hp → Prop} {v : V} {t n : String} {b : Bool} (h0 : σ[0]? = some (some v)) (ty : TyX K H v (.type t)) (k : kitB t n = some b) (q : Q b H) : tru K (tIsi K n) σ H Q :=
  ⟨v, h0, v, .ty n, _, _, b, rfl, .ty n, ty, kit_ty k, b, rfl, q⟩
theorem isiLT_ok {K : PySem.W.Frag} {σ : L2.St} {H : Hp} {Q : Bool → Hp → Prop} {v : V} {d : D} {b : Bool} (h0 : σ[0]? = some (some v)) (k : isTs d [.t "list", .t "tuple"] = some b)
    (q : ∀ p, H p = none → TyX K (upd H p (.tup [.ty "list", .ty "tuple"])) v (.type d.ty) ∧ Q b (upd H p (.tup [.ty "list", .ty "tuple"]))) : tru K (tIsiLT K) σ H Q := by
  refine ⟨v, h0, ⟨by rw [sizeLine_eq]; exact Nat.le_of_ble_eq_true rfl, fun p hp => ?_⟩⟩
  exact ⟨v, p, _, _, _, b, rfl, upd_same, tyV_cls (ts := [.t "list", .t "tuple"]) (by decide), (q p hp).1, isTs_kit (ts := [.t "list", .t "tuple"]) (by decide) k, b, rfl, (q p hp).2⟩
/-- the parts, one behind another -/
theorem spl_loop {K : PySem.W.Frag} {P : Pt} {S : Hp} {m B : Nat} {a : Addr} {o : HO} {cur : List V} {xs : List D} {x1 x2 : Option V} {H : Hp} {Z : Ends} (ho : o = .lst cur ∨ o = .tup cur) (ha : H a = some o) (hna : ¬ Md P S (D.deps xs) a) (hlen : xs.length ≤ cur.length)
    (hrd : ∀ i v, cur[i]? = some v → (∃ x, xs[i]? = some x ∧ RdD P S v x) ∨ (xs.length ≤ i ∧ v = late)) (hm : D.muts xs = true) (hd : D.deps xs ≤ m) (hB : D.nods xs ≤ B) (sp : Spd S H B)
    (fin : ∀ x2 H3, H3 a = some o → Spd S H3 (B - D.nods xs) → (∀ b u, H b = some u → ¬ Md P S (D.deps xs) b → H3 b = some u) → Z.nx [some (.ref a), x1, x2] H3) : tSpFor K m Z [some (.ref a), x1, x2] H := by
  have go : ∀ J : It, (∀ i H3, H3 a = some o → i < cur.length → J.go i H3) → (∀ H3, H3 a = some o → J.stop cur.length H3) → (∀ i H3 v H4, H3 a = some o → J.yld i H3 v H4 → H4 = H3 ∧ cur[i]? = some v) →
      ∃ W : Nat → Nat → L2.St → Hp → Prop, (∃ m, W 0 m [some (.ref a), x1, x2] H) ∧ ∀ i q σ H3, W i q σ H3 → (J.stop i H3 ∧ Z.nx σ H3) ∨ (J.go i H3 ∧ ∃ N : L2.St → Hp → Prop, (∀ σ' H', N σ' H' → ∃ m', m' < q ∧ W (i + 1) m' σ' H') ∧ ∀ x H', J.yld i H3 x H' → gName 2 x σ H' fun σ2 H2 =>
        tCall (spSpoil m) [] (fun _ _ _ => False) (tCons (tVar 2) tNil) σ2 H2 fun _ H1 => N σ2 H1) := by
    intro J jgo jstop jyld
    refine ⟨fun i q σ H3 => q = cur.length - i ∧ i ≤ cur.length ∧ (∃ x2, σ = [some (.ref a), x1, x2]) ∧ H3 a = some o ∧ Spd S H3 (B - D.nods (xs.take i)) ∧ ∀ b u, H b = some u → ¬ Md P S (D.deps xs) b → H3 b = some u, ⟨cur.length, rfl, Nat.zero_le _, ⟨x2, rfl⟩, ha, sp.less (by omega), fun _ _ h _ => h⟩, ?_⟩
    rintro i q σ H3 ⟨rfl, hi, ⟨y2, rfl⟩, h3, sp3, pr⟩
    by_cases hlt : i < cur.length
    · refine .inr ⟨jgo i H3 h3 hlt, fun σ' H' => (∃ x2, σ' = [some (.ref a), x1, x2]) ∧ H' a = some o ∧ Spd S H' (B - D.nods (xs.take (i + 1))) ∧ ∀ b u, H b = some u → ¬ Md P S (D.deps xs) b → H' b = some u, fun σ' H' h => ⟨cur.length - (i + 1), by omega, rfl, by omega, h⟩, fun v H4 hy => ?_⟩
      obtain ⟨rfl, hv⟩ := jyld i H3 v H4 h3 hy
      refine ⟨v, rfl, ?_⟩
      have nt := nods_le xs (i + 1)
      rcases hrd i v hv with ⟨x, hx, rx⟩ | ⟨hge, rfl⟩
      · have ex := nods_take hx
        refine ⟨P, S, x, v, B - D.nods (xs.take i), rfl, rx, muts_get hm hx, Nat.le_trans (deps_get hx) hd, by omega, sp3, fun H5 sp5 pr5 => ⟨⟨_, rfl⟩, pr5 a o h3 fun z => hna (z.mono (deps_get hx)), ?_, fun b u hb hn => pr5 b u (pr b u hb hn) fun z => hn (z.mono (deps_get hx))⟩⟩
        rw [ex, ← Nat.sub_sub]; exact sp5
      · refine ⟨P, S, .str "late", late, B - D.nods (xs.take i), rfl, .str _, rfl, Nat.zero_le _, Nat.zero_le _, sp3, fun H5 sp5 pr5 => ⟨⟨_, rfl⟩, pr5 a o h3 fun z => hna (z.mono (Nat.zero_le _)), ?_, fun b u hb hn => pr5 b u (pr b u hb hn) fun z => hn (z.mono (Nat.zero_le _))⟩⟩
        rw [List.take_of_length_le (by omega)] at sp5 ⊢
        exact sp5.less (by show B - D.nods xs ≤ B - D.nods xs - 0; omega)
    · have ei : i = cur.length := by omega
      subst ei
      refine .inl ⟨jstop H3 h3, fin y2 H3 h3 ?_ pr⟩
      rw [List.take_of_length_le hlen] at sp3
      exact sp3
  refine ⟨_, rfl, a, rfl, ?_⟩
  rcases ho with rfl | rfl
  · refine .inl ⟨⟨cur, SqL.of ha⟩, go _ (fun i H3 h hi => ⟨cur, cur[i], SqL.of h, List.getElem?_eq_getElem hi⟩) (fun H3 h => ⟨cur, SqL.of h, Nat.le_refl _⟩) (fun i H3 v H4 h hy => ⟨hy.1, hy.2 cur (SqL.of h)⟩)⟩
  · refine .inr ⟨⟨cur, SqT.of ha⟩, go _ (fun i H3 h hi => ⟨cur, cur[i], SqT.of h, List.getElem?_eq_getElem hi⟩) (fun H3 h => ⟨cur, SqT.of h, Nat.le_refl _⟩) (fun i H3 v H4 h hy => ⟨hy.1, hy.2 cur (SqT.of h)⟩)⟩
theorem iteT' {p q : Prop} (h : p) : if true = true then p else q := h
theorem iteF' {p q : Prop} (h : q) : if false = true then p else q := by rw [if_neg (by decide)]; exact h
theorem spl_run {K : PySem.W.Frag} {m : Nat} {ti : TS} {vs : List V} {H : Hp} {Q : VK} {E : XK} (hti : m = 0 ∨ ∃ m', m = m' + 1 ∧ ti = tSpFor K m') (h : spSpoil m vs H Q E) : tSpl K ti { nx := fun _ H' => Q .non H', rt := Q } (L2.start ["thing", "key", "part"] vs) H := by
  obtain ⟨P, S, d, v, B, rfl, rd, hm, hd, hB, sp, fin⟩ := h
  show tSpl K ti _ [some v, none, none] H
  have nodict : kitB d.ty "dict" = some false := by
    cases d with
    | non => exact (by decide +kernel : kitB "NoneType" "dict" = some false)
    | bl b => exact (by decide +kernel : kitB "bool" "dict" = some false)
    | int i => exact (by decide +kernel : kitB "int" "dict" = some false)
    | str i => exact (by decide +kernel : kitB "str" "dict" = some false)
    | lst i => exact (by decide +kernel : kitB "list" "dict" = some false)
    | tup i => exact (by decide +kernel : kitB "tuple" "dict" = some false)
    | _ => exact absurd hm (by unfold D.mut; exact Bool.false_ne_true)
  refine isi_ok rfl (sp.ty rd hm) nodict (iteF' ?_)
  have pne : ∀ {p : Addr} {o : HO}, H p = none → ∀ b u, H b = some u → upd H p o b = some u := fun {p o} hp b u hb => by
    have : b ≠ p := fun z => by rw [z, hp] at hb; cases hb
    rw [upd_ne this]; exact hb
  have lt : ∀ {d : D} {b c : Bool}, d.kd' = true → kitB d.ty "list" = some b → kitB d.ty "tuple" = some c → isTs d [.t "list", .t "tuple"] = some (b || c) := fun {d b c} hk h1 h2 => by
    have e1 : isT d (.t "list") = some b := by cases d <;> first | exact h1 | exact absurd hk Bool.false_ne_true
    have e2 : isT d (.t "tuple") = some c := by cases d <;> first | exact h2 | exact absurd hk Bool.false_ne_true
    unfold isTs
    rw [e1]
    cases b with
    | true => rfl
    | false =>
      unfold isTs
      rw [e2]
      cases c <;> rfl
  have flat : d.scal = true → isTs d [.t "list", .t "tuple"] = some false ∧ kitB d.ty "list" = some false := fun hs => by
    cases d with
    | non => exact ⟨lt (d := .non) rfl (by decide +kernel : kitB "NoneType" "list" = some false) (by decide +kernel : kitB "NoneType" "tuple" = some false), (by decide +kernel : kitB "NoneType" "list" = some false)⟩
    | bl b => exact ⟨lt (d := .bl b) rfl (by decide +kernel : kitB "bool" "list" = some false) (by decide +kernel : kitB "bool" "tuple" = some false), (by decide +kernel : kitB "bool" "list" = some false)⟩
    | int b => exact ⟨lt (d := .int b) rfl (by decide +kernel : kitB "int" "list" = some false) (by decide +kernel : kitB "int" "tuple" = some false), (by decide +kernel : kitB "int" "list" = some false)⟩
    | str b => exact ⟨lt (d := .str b) rfl (by decide +kernel : kitB "str" "list" = some false) (by decide +kernel : kitB "str" "tuple" = some false), (by decide +kernel : kitB "str" "list" = some false)⟩
    | _ => exact absurd hs Bool.false_ne_true
  by_cases hs : d.scal = true
  · obtain ⟨h1, h2⟩ := flat hs
    refine isiLT_ok rfl h1 fun p hp => ⟨(sp.new hp).ty rd hm, iteF' ?_⟩
    refine isi_ok rfl ((sp.new hp).ty rd hm) h2 (iteF' ?_)
    exact fin _ ((sp.new hp).less (by omega)) fun b u hb _ => pne hp b u hb
  · rcases hti with rfl | ⟨m, rfl, rfl⟩
    · exfalso
      cases d <;> first
        | exact hs rfl
        | (unfold D.dep at hd; omega)
        | exact absurd hm (by unfold D.mut; exact Bool.false_ne_true)
    cases d with
    | lst xs =>
      have hm' : D.muts xs = true := by unfold D.mut at hm; exact hm
      unfold D.dep at hd
      have hB' : D.nods xs + 1 ≤ B := by unfold D.nod at hB; exact hB
      obtain ⟨a, vs, rfl, e, r⟩ : ∃ a vs, v = .ref a ∧ S a = some (.lst vs) ∧ RdL P S vs xs := by
        cases rd with
        | lst e r => exact ⟨_, _, rfl, e, r⟩
      obtain ⟨k, hk, hk2⟩ := sp.l _ _ e
      have hna : ∀ j, j ≤ D.deps xs → ¬ Md P S j a := fun j hj ⟨d', r', h1, h2, _⟩ => by
        have := RdD.fn rd r' hm h1
        rw [← this] at h2
        unfold D.dep at h2
        omega
      refine isiLT_ok rfl (d := .lst xs) (lt (d := .lst xs) rfl (by decide +kernel : kitB "list" "list" = some true) (by decide +kernel : kitB "list" "tuple" = some false)) fun p hp => ⟨(sp.new hp).ty rd hm, iteT' ?_⟩
      have ap : a ≠ p := fun z => by rw [z, hp] at hk; cases hk
      refine spl_loop (o := .lst (vs ++ List.replicate k late)) (cur := vs ++ List.replicate k late) (xs := xs) (B := B) (.inl rfl) (by rw [upd_ne ap]; exact hk) (hna _ (Nat.le_refl _)) (by rw [List.length_append, r.length]; omega) (fun i v hv => ?_) hm' (by omega) (by omega) (sp.new hp) fun x2 H3 h3 sp3 pr3 => ?_
      · rcases Nat.lt_or_ge i vs.length with z | z
        · rw [List.getElem?_append_left z] at hv
          obtain ⟨x, h1, h2⟩ := r.getV hv
          exact .inl ⟨x, h1, h2⟩
        · rw [List.getElem?_append_right z, List.getElem?_replicate] at hv
          split at hv
          · exact .inr ⟨by rw [← r.length]; exact z, (Option.some.inj hv).symm⟩
          · cases hv
      refine isi_ok rfl (sp3.ty rd hm) (by decide +kernel : kitB "list" "list" = some true) (iteT' ?_)
      refine ⟨.ref a, rfl, .inl ⟨rfl, _, .inl (.inl h3)⟩, a, vs ++ List.replicate k late, late, rfl, rfl, h3, ?_, ?_⟩
      · rw [List.length_append, List.length_replicate]; omega
      have nd : (D.lst xs).nod = D.nods xs + 1 := by unfold D.nod; rfl
      have dd : (D.lst xs).dep = D.deps xs + 1 := by rw [D.dep]
      refine fin _ ⟨fun b ws eb => ?_, fun b ws eb => ?_⟩ fun b u hb hn => ?_
      · by_cases z : b = a
        · subst z
          rw [e] at eb
          cases eb
          refine ⟨k + 1, ?_, by rw [nd]; omega⟩
          rw [upd_same, List.append_assoc, ← List.replicate_succ']
        · obtain ⟨k2, h1, h2⟩ := sp3.l b ws eb
          exact ⟨k2, by rw [upd_ne z]; exact h1, by rw [nd]; omega⟩
      · have z : b ≠ a := fun z => by rw [z, e] at eb; cases eb
        rw [upd_ne z]; exact sp3.t b ws eb
      · have z : b ≠ a := fun z => hn ⟨_, by rw [z]; exact rd, hm, Nat.le_refl _, vs, by rw [z]; exact e⟩
        rw [upd_ne z]
        exact pr3 b u (pne hp b u hb) fun y => hn (y.mono (by rw [dd]; omega))
    | tup xs =>
      have hm' : D.muts xs = true := by unfold D.mut at hm; exact hm
      unfold D.dep at hd
      have hB' : D.nods xs ≤ B := by unfold D.nod at hB; exact hB
      obtain ⟨a, vs, rfl, e, r⟩ : ∃ a vs, v = .ref a ∧ S a = some (.tup vs) ∧ RdL P S vs xs := by
        cases rd with
        | tup e r => exact ⟨_, _, rfl, e, r⟩
      have hk := sp.t _ _ e
      refine isiLT_ok rfl (d := .tup xs) (lt (d := .tup xs) rfl (by decide +kernel : kitB "tuple" "list" = some false) (by decide +kernel : kitB "tuple" "tuple" = some true)) fun p hp => ⟨(sp.new hp).ty rd hm, iteT' ?_⟩
      have ap : a ≠ p := fun z => by rw [z, hp] at hk; cases hk
      refine spl_loop (P := P) (o := .tup vs) (cur := vs) (xs := xs) (B := B) (.inr rfl) (by rw [upd_ne ap]; exact hk) (fun ⟨_, _, _, _, vs', h⟩ => by rw [e] at h; cases h) (Nat.le_of_eq r.length.symm) (fun i v hv => .inl (by
        obtain ⟨x, h1, h2⟩ := r.getV hv
        exact ⟨x, h1, h2⟩)) hm' (by omega) hB' (sp.new hp) fun x2 H3 h3 sp3 pr3 => ?_
      refine isi_ok rfl (sp3.ty rd hm) (by decide +kernel : kitB "tuple" "list" = some false) (iteF' ?_)
      refine fin _ (by unfold D.nod; exact sp3) fun b u hb hn => pr3 b u (pne hp b u hb) fun z => hn (z.mono (by unfold D.dep; omega))
    | _ => first
      | exact absurd rfl hs
      | exact absurd hm (by unfold D.mut; exact Bool.false_ne_true)
/-! ### a slot's things are spoilt -/
mutual
def D.subs : D → List D
  | .lst xs => .lst xs :: D.subss xs
  | .tup xs => .tup xs :: D.subss xs
  | d => [d]
def D.subss : List D → List D
  | [] => []
  | d :: ds => d.subs ++ D.subss ds
end
open Classical in
noncomputable def cut (P : Pt) (S : Hp) (T : List D) : Hp := fun a => if ∃ d, RdD P S (.ref a) d ∧ d ∈ T then S a else none
theorem cut_sub {P : Pt} {S : Hp} {T : List D} : Sub (cut P S T) S := fun a o h => by
  unfold cut at h
  split at h
  · exact h
  · cases h
theorem cut_at {P : Pt} {S : Hp} {T : List D} {a : Addr} {o : HO} {d : D} (h : S a = some o) (r : RdD P S (.ref a) d) (m : d ∈ T) : cut P S T a = some o := by
  unfold cut
  rw [if_pos ⟨d, r, m⟩]; exact h
mutual
theorem RdD.cuts {P : Pt} {S : Hp} {T : List D} : ∀ {v : V} {d : D}, RdD P S v d → d.mut = true → (∀ e ∈ d.subs, e ∈ T) → RdD P (DL.cut P S T) v d
  | _, _, .non, _, _ => .non
  | _, _, .bl b, _, _ => .bl b
  | _, _, .int b, _, _ => .int b
  | _, _, .str b, _, _ => .str b
  | _, _, .strm, h, _ => absurd h (by unfold D.mut; exact Bool.false_ne_true)
  | _, _, .dic _ _ _, h, _ => absurd h (by unfold D.mut; exact Bool.false_ne_true)
  | _, _, .dit _ _ _, h, _ => absurd h (by unfold D.mut; exact Bool.false_ne_true)
  | _, _, .ins _ _ _ _, h, _ => absurd h (by unfold D.mut; exact Bool.false_ne_true)
  | _, .lst xs, .lst e r, h, m => by
    unfold D.subs at m
    have h' : D.muts xs = true := by unfold D.mut at h; exact h
    exact .lst (cut_at e (.lst e r) (m _ List.mem_cons_self)) (RdL.cuts r h' fun x hx => m x (List.mem_cons_of_mem _ hx))
  | _, .tup xs, .tup e r, h, m => by
    unfold D.subs at m
    have h' : D.muts xs = true := by unfold D.mut at h; exact h
    exact .tup (cut_at e (.tup e r) (m _ List.mem_cons_self)) (RdL.cuts r h' fun x hx => m x (List.mem_cons_of_mem _ hx))
theorem RdL.cuts {P : Pt} {S : Hp} {T : List D} : ∀ {vs : List V} {ds : List D}, RdL P S vs ds → D.muts ds = true → (∀ e ∈ D.subss ds, e ∈ T) → RdL P (DL.cut P S T) vs ds
  | _, _, .nil, _, _ => .nil
  | _, _, .cons r rs, h, m => by
    unfold D.muts at h
    unfold D.subss at m
    exact .cons (RdD.cuts r (Bool.and_eq_true_iff.mp h).1 fun e he => m e (List.mem_append_left _ he)) (RdL.cuts rs (Bool.and_eq_true_iff.mp h).2 fun e he => m e (List.mem_append_right _ he))
end
mutual
theorem subs_ok : ∀ {d : D} {e : D}, d.mut = true → e ∈ d.subs → e.mut = true ∧ e.mx ≤ d.mx
  | .lst xs, e, h, m => by
    unfold D.subs at m
    rcases List.mem_cons.mp m with rfl | m
    · exact ⟨h, Nat.le_refl _⟩
    · have h' : D.muts xs = true := by unfold D.mut at h; exact h
      obtain ⟨a, b⟩ := subss_ok h' m
      exact ⟨a, by rw [D.mx]; exact Nat.le_trans b (Nat.le_max_right _ _)⟩
  | .tup xs, e, h, m => by
    unfold D.subs at m
    rcases List.mem_cons.mp m with rfl | m
    · exact ⟨h, Nat.le_refl _⟩
    · have h' : D.muts xs = true := by unfold D.mut at h; exact h
      obtain ⟨a, b⟩ := subss_ok h' m
      exact ⟨a, by rw [D.mx]; exact b⟩
  | .non, e, h, m => by unfold D.subs at m; rw [List.mem_singleton.mp m]; exact ⟨h, Nat.le_refl _⟩
  | .bl _, e, h, m => by unfold D.subs at m; rw [List.mem_singleton.mp m]; exact ⟨h, Nat.le_refl _⟩
  | .int _, e, h, m => by unfold D.subs at m; rw [List.mem_singleton.mp m]; exact ⟨h, Nat.le_refl _⟩
  | .str _, e, h, m => by unfold D.subs at m; rw [List.mem_singleton.mp m]; exact ⟨h, Nat.le_refl _⟩
  | .strm, e, h, m => absurd h (by unfold D.mut; exact Bool.false_ne_true)
  | .dic _ _, e, h, m => absurd h (by unfold D.mut; exact Bool.false_ne_true)
  | .dit _ _, e, h, m => absurd h (by unfold D.mut; exact Bool.false_ne_true)
  | .ins _ _, e, h, m => absurd h (by unfold D.mut; exact Bool.false_ne_true)
theorem subss_ok : ∀ {ds : List D} {e : D}, D.muts ds = true → e ∈ D.subss ds → e.mut = true ∧ e.mx ≤ D.mxs ds
  | [], e, h, m => by unfold D.subss at m; cases m
  | d :: ds, e, h, m => by
    unfold D.muts at h
    unfold D.subss at m
    obtain ⟨h1, h2⟩ := Bool.and_eq_true_iff.mp h
    rcases List.mem_append.mp m with m | m
    · obtain ⟨a, b⟩ := subs_ok h1 m
      exact ⟨a, by rw [D.mxs]; exact Nat.le_trans b (Nat.le_max_left _ _)⟩
    · obtain ⟨a, b⟩ := subss_ok h2 m
      exact ⟨a, by rw [D.mxs]; exact Nat.le_trans b (Nat.le_max_right _ _)⟩
end
theorem cut_spd {P : Pt} {S H : Hp} {d : D} (g : Sub S H) (hm : d.mut = true) (hb : d.mx + d.nod ≤ sizeLine) : Spd (cut P S d.subs) H d.nod := by
  refine ⟨fun a vs e => ⟨0, ?_, ?_⟩, fun a vs e => g _ _ (cut_sub _ _ e)⟩
  · rw [List.replicate_zero, List.append_nil]
    exact g _ _ (cut_sub _ _ e)
  · have e2 := cut_sub _ _ e
    unfold cut at e
    split at e
    · rename_i hx
      obtain ⟨x, rx, mx⟩ := hx
      obtain ⟨h1, h2⟩ := subs_ok hm mx
      cases rx with
      | lst e3 r =>
        rw [e2] at e3
        cases e3
        rename_i xs
        rw [D.mx] at h2
        have := r.length
        have := Nat.le_max_left xs.length (D.mxs xs)
        omega
      | tup e3 r => rw [e2] at e3; cases e3
      | _ => first
        | (rename_i e3 _ _; rw [e2] at e3; cases e3; done)
        | exact absurd h1 (by unfold D.mut; exact Bool.false_ne_true)
    · cases e
section
variable {P : Pt} {G0 H0 G H H' : Hp} {W : Nat → Addr → Prop} {n : Nat} {σ : L2.St} {f : Fr}
theorem SR.spoil (S : SR P G0 H0 W n σ f G H) {i : Nat} (pr : ∀ a o, H a = some o → (W i a → ∃ xs, o = .tup xs) → H' a = some o) : SR P G0 H0 (fun k a => k ≠ i ∧ W k a) n σ (f.set i .no) G H' := by
  have keep : ∀ {a o}, H a = some o → ¬ W i a → H' a = some o := fun {a o} e h => pr a o e fun w => absurd w h
  obtain ⟨ne, ns, a1, b1, c1, e1, e2, rest⟩ := S.bs.st
  refine ⟨⟨fun a o e => keep (S.bs.gh a o e) fun w => (by rw [S.wk.g i a w] at e; cases e), S.bs.g0, S.bs.gx, fun a o e x y => keep (S.bs.h0 a o e x y) fun w => (by rw [S.wk.h0 i a w] at e; cases e),
    ⟨ne, ns, a1, b1, c1, keep e1 fun w => (S.wk.s i _ w).1 rfl, keep e2 fun w => (S.wk.s i _ w).2 rfl, rest⟩, S.bs.gs, S.bs.gl⟩,
    ⟨fun j k a x y => S.wk.inj j k a x.2 y.2, fun k a x => ?_, fun k a x => S.wk.g k a x.2, fun k a x => S.wk.h0 k a x.2, fun k a x => S.wk.s k a x.2, fun k a x ys e => ?_⟩, by rw [List.length_set]; exact S.len, fun j t e => ?_⟩
  · cases q : H a with
    | none => exact absurd q (S.wk.h k a x.2)
    | some o => rw [keep q fun w => x.1 (S.wk.inj k i a x.2 w)]; simp
  · cases q : H a with
    | none => exact absurd q (S.wk.h k a x.2)
    | some o =>
      rw [keep q fun w => x.1 (S.wk.inj k i a x.2 w)] at e
      exact S.wk.nt k a x.2 ys (q.trans e)
  · by_cases hij : i = j
    · subst hij
      have hi : i < f.length := by
        rcases Nat.lt_or_ge i f.length with z | z
        · exact z
        · rw [List.getElem?_eq_none (by rw [List.length_set]; exact z)] at e; cases e
      rw [List.getElem?_set_self hi] at e
      cases e
      trivial
    · rw [List.getElem?_set_ne hij] at e
      have r' := S.sl j t e
      have nw : ∀ {a}, W j a → ¬ W i a := fun {a} w z => hij (S.wk.inj i j a z w)
      cases t with
      | no => trivial
      | v d b => exact r'
      | l xs b => obtain ⟨p, vs, e1, w1, h1, r1⟩ := r'; exact ⟨p, vs, e1, ⟨Ne.symm hij, w1⟩, keep h1 (nw w1), r1⟩
      | k ks xs b => obtain ⟨p, vs, e1, w1, h1, l1, r1⟩ := r'; exact ⟨p, vs, e1, ⟨Ne.symm hij, w1⟩, keep h1 (nw w1), l1, r1⟩
      | kt ks xs b => obtain ⟨p, vs, e1, w1, h1, l1, r1⟩ := r'; exact ⟨p, vs, e1, ⟨Ne.symm hij, w1⟩, keep h1 (nw w1), l1, r1⟩
      | o c ns xs b => obtain ⟨p, C, dx, cs, vs, e1, w1, hc, h1, l1, r1⟩ := r'; exact ⟨p, C, dx, cs, vs, e1, ⟨Ne.symm hij, w1⟩, hc, keep h1 (nw w1), l1, r1⟩
      | scr => exact r'
      | sep d =>
        obtain ⟨v, Sg, e1, r1, h1, m⟩ := r'
        refine ⟨v, Sg, e1, r1, fun a u z => ?_, fun a u z => (m a u z).imp id fun w1 => ⟨Ne.symm hij, w1⟩⟩
        rcases m a u z with ⟨xs, rfl⟩ | w1
        · exact pr a _ (h1 a _ z) fun _ => ⟨xs, rfl⟩
        · exact keep (h1 a u z) (nw w1)
/-- something new that is a name's alone -/
theorem SR.setSep (S : SR P G0 H0 W n σ f G H) {i : Nat} {v : V} {d : D} {U Hn : Hp} (hu : Sub U H) (hn : ∀ a o, U a = some o → Hn a = none) (hw : ∀ k a, W k a → Hn a ≠ none) (hg : ∀ a o, U a = some o → G a = none ∧ H0 a = none ∧ a ≠ P.s ∧ a ≠ P.l) (r : RdD P U v d) :
    SR P G0 H0 (fun k => if k = i then (fun a => ∃ o, U a = some o ∧ ∀ ys, o ≠ .tup ys) else W k) n (σ.set i (some v)) (f.set i (.sep d)) G H := by
  have one : ∀ {k a}, (if k = i then (fun a => ∃ o, U a = some o ∧ ∀ ys, o ≠ .tup ys) else W k) a → (k = i ∧ ∃ o, U a = some o ∧ ∀ ys, o ≠ .tup ys) ∨ (k ≠ i ∧ W k a) := fun {k a} h => by
    by_cases e : k = i
    · rw [if_pos e] at h
      exact .inl ⟨e, h⟩
    · rw [if_neg e] at h; exact .inr ⟨e, h⟩
  refine ⟨S.bs, ⟨fun j k a h1 h2 => ?_, fun k a h => ?_, fun k a h => ?_, fun k a h => ?_, fun k a h => ?_, fun k a h => ?_⟩, by rw [List.length_set, List.length_set]; exact S.len, fun j t e => ?_⟩
  · rcases one h1 with ⟨e1, o1, z1, _⟩ | ⟨e1, z1⟩ <;> rcases one h2 with ⟨e2, o2, z2, _⟩ | ⟨e2, z2⟩
    · rw [e1, e2]
    · exact absurd (hn a o1 z1) (hw k a z2)
    · exact absurd (hn a o2 z2) (hw j a z1)
    · exact S.wk.inj j k a z1 z2
  · rcases one h with ⟨e1, o1, z1, z2⟩ | ⟨e1, z1⟩
    · rw [hu a o1 z1]; simp
    · exact S.wk.h k a z1
  · rcases one h with ⟨e1, o1, z1, z2⟩ | ⟨e1, z1⟩
    · exact (hg a o1 z1).1
    · exact S.wk.g k a z1
  · rcases one h with ⟨e1, o1, z1, z2⟩ | ⟨e1, z1⟩
    · exact (hg a o1 z1).2.1
    · exact S.wk.h0 k a z1
  · rcases one h with ⟨e1, o1, z1, z2⟩ | ⟨e1, z1⟩
    · exact (hg a o1 z1).2.2
    · exact S.wk.s k a z1
  · rcases one h with ⟨e1, o1, z1, z2⟩ | ⟨e1, z1⟩
    · intro ys e
      rw [hu a o1 z1] at e
      exact z2 ys (Option.some.inj e)
    · exact S.wk.nt k a z1
  · by_cases h : i = j
    · subst h
      have hi : i < f.length := by
        rcases Nat.lt_or_ge i f.length with z | z
        · exact z
        · rw [List.getElem?_eq_none (by rw [List.length_set]; exact z)] at e; cases e
      rw [List.getElem?_set_self hi] at e
      cases e
      refine ⟨v, U, ?_, r, hu, fun a o z => ?_⟩
      · rw [List.getElem?_set_self (by rw [S.len]; exact hi)]; rfl
      · show (∃ xs, o = .tup xs) ∨ (if i = i then (fun a => ∃ o, U a = some o ∧ ∀ ys, o ≠ .tup ys) else W i) a
        rw [if_pos rfl]
        by_cases y : ∃ xs, o = HO.tup xs
        · exact .inl y
        · exact .inr ⟨o, z, fun ys q => y ⟨ys, q⟩⟩
    · rw [List.getElem?_set_ne h] at e ⊢
      rw [if_neg (Ne.symm h)]
      exact S.sl j t e
end
end DL

set_option maxHeartbeats 4000000
/-! DL12: statements. -/
namespace DL
open PySem PySem.Spec PyProof.Rows L2

/-- from a statement's run to its reading -/
def tS (cl : Cls0) (ev : DE → Fr → Nat → Prop) : TS := fun D σ H => ∃ (P : Pt) (G0 H0 : Hp) (W : Nat → Addr → Prop) (n : Nat) (f : Fr) (G : Hp) (K : DE), P.cl = cl ∧ SR P G0 H0 W n σ f G H ∧ ev K f n ∧
  (∀ f' n', K.nx f' n' → ∀ W' σ' G' H', Sub G G' → SR P G0 H0 W' n' σ' f' G' H' → D.nx σ' H') ∧
  (∀ r n', K.rt r n' → ∀ v G' H', Bs P G0 H0 n' G' H' → RdD P (rg r.2 G' H0) v r.1 → D.rt v H') ∧
  (∀ f' n', K.ct f' n' → ∀ W' σ' G' H', Sub G G' → SR P G0 H0 W' n' σ' f' G' H' → D.ct σ' H')
/-- what a name gets -/
def relR (P : Pt) (H H0 G' H' : Hp) (v : V) : Sl → Prop
  | .v d b => RdD P (rg b G' H0) v d
  | .l xs b => ∃ p vs, v = .ref p ∧ H p = none ∧ G' p = none ∧ H' p = some (.lst vs) ∧ RdL P (rg b G' H0) vs xs
  | .k ks xs b => ∃ p vs, v = .ref p ∧ H p = none ∧ G' p = none ∧ H' p = some (.dK (ks.zip vs)) ∧ ks.length = vs.length ∧ RdL P (rg b G' H0) vs xs
  | .kt ks xs b => ∃ p vs, v = .ref p ∧ H p = none ∧ G' p = none ∧ H' p = some (.dT (ks.zip vs)) ∧ ks.length = vs.length ∧ RdL P (rg b G' H0) vs xs
  | _ => False
theorem kR : Kept relR := by
  refine ⟨fun {P G0 H0 W n n0 σ f G H G1 H1 n2 G2 H2 v r} s0 S L L2 st h => ?_, fun {P n n1 H0 G H G1 H1 G2 H2 v r} L s1 s2 h => ?_⟩
  · obtain ⟨_, ns, a1, b1, c1, e1, e2, _⟩ := s0
    have key : ∀ {p u}, (∀ ys, u ≠ .tup ys) → H p = none → G1 p = none → H1 p = some u → G2 p = none ∧ H2 p = some u := fun {p u} nt hn hg hh => by
      have z1 : p ≠ P.s := fun z => by rw [z, e1] at hn; cases hn
      have z2 : p ≠ P.l := fun z => by rw [z, e2] at hn; cases hn
      exact ⟨(L2.gx p (by rw [hh]; simp)).elim (fun z => z.trans hg) fun ⟨ys, z⟩ => absurd (Option.some.inj (hh.symm.trans z)) (nt ys), L2.h p _ hh z1 z2⟩
    cases r with
    | v d b => exact RdD.mono (rg_mono L2.g) h
    | l xs b => obtain ⟨p, vs, e, hn, hg, hh, r⟩ := h; exact ⟨p, vs, e, hn, (key (fun _ z => by cases z) hn hg hh).1, (key (fun _ z => by cases z) hn hg hh).2, r.mono (rg_mono L2.g)⟩
    | k ks xs b => obtain ⟨p, vs, e, hn, hg, hh, l, r⟩ := h; exact ⟨p, vs, e, hn, (key (fun _ z => by cases z) hn hg hh).1, (key (fun _ z => by cases z) hn hg hh).2, l, r.mono (rg_mono L2.g)⟩
    | kt ks xs b => obtain ⟨p, vs, e, hn, hg, hh, l, r⟩ := h; exact ⟨p, vs, e, hn, (key (fun _ z => by cases z) hn hg hh).1, (key (fun _ z => by cases z) hn hg hh).2, l, r.mono (rg_mono L2.g)⟩
    | _ => exact h.elim
  · cases r with
    | v d b => exact h
    | l xs b => obtain ⟨p, vs, e, hn, r⟩ := h; exact ⟨p, vs, e, L.none s1 s2 hn, r⟩
    | k ks xs b => obtain ⟨p, vs, e, hn, r⟩ := h; exact ⟨p, vs, e, L.none s1 s2 hn, r⟩
    | kt ks xs b => obtain ⟨p, vs, e, hn, r⟩ := h; exact ⟨p, vs, e, L.none s1 s2 hn, r⟩
    | _ => exact h.elim
section
variable {P : Pt} {G0 H0 G H G' H' Hn : Hp} {W : Nat → Addr → Prop} {n n' : Nat} {σ : L2.St} {f : Fr}
theorem SR.setO (S : SR P G0 H0 W n σ f G H) {i : Nat} {p : Addr} {s : Sl} (hw : ∀ k, k ≠ i → ¬ W k p) (hg : G p = none) (hh : H p ≠ none) (h0 : H0 p = none) (hs : p ≠ P.s) (hl : p ≠ P.l) (hnt : ∀ ys, H p ≠ some (.tup ys))
    (r : SlR P G H H0 (fun a => a = p) (some (.ref p)) s) : SR P G0 H0 (fun k => if k = i then (fun a => a = p) else W k) n (σ.set i (some (.ref p))) (f.set i s) G H := by
  have one : ∀ {k a}, (if k = i then (fun a => a = p) else W k) a → (k = i ∧ a = p) ∨ (k ≠ i ∧ W k a) := fun {k a} h => by
    by_cases e : k = i
    · rw [if_pos e] at h; exact .inl ⟨e, h⟩
    · rw [if_neg e] at h; exact .inr ⟨e, h⟩
  refine ⟨S.bs, ⟨fun j k a h1 h2 => ?_, fun k a h => ?_, fun k a h => ?_, fun k a h => ?_, fun k a h => ?_, fun k a h => ?_⟩, by rw [List.length_set, List.length_set]; exact S.len, fun j t e => ?_⟩
  · rcases one h1 with ⟨e1, z1⟩ | ⟨e1, z1⟩ <;> rcases one h2 with ⟨e2, z2⟩ | ⟨e2, z2⟩
    · rw [e1, e2]
    · exact absurd (z1 ▸ z2) (hw k e2)
    · exact absurd (z2 ▸ z1) (hw j e1)
    · exact S.wk.inj j k a z1 z2
  · rcases one h with ⟨e1, z1⟩ | ⟨e1, z1⟩
    · rw [z1]; exact hh
    · exact S.wk.h k a z1
  · rcases one h with ⟨e1, z1⟩ | ⟨e1, z1⟩
    · rw [z1]; exact hg
    · exact S.wk.g k a z1
  · rcases one h with ⟨e1, z1⟩ | ⟨e1, z1⟩
    · rw [z1]; exact h0
    · exact S.wk.h0 k a z1
  · rcases one h with ⟨e1, z1⟩ | ⟨e1, z1⟩
    · rw [z1]; exact ⟨hs, hl⟩
    · exact S.wk.s k a z1
  · rcases one h with ⟨e1, z1⟩ | ⟨e1, z1⟩
    · rw [z1]; exact hnt
    · exact S.wk.nt k a z1
  · by_cases h : i = j
    · subst h
      have hi : i < f.length := by
        rcases Nat.lt_or_ge i f.length with z | z
        · exact z
        · rw [List.getElem?_eq_none (by rw [List.length_set]; exact z)] at e; cases e
      rw [List.getElem?_set_self hi] at e
      cases e
      rw [List.getElem?_set_self (by rw [S.len]; exact hi), if_pos rfl]
      exact r
    · rw [List.getElem?_set_ne h] at e ⊢
      rw [if_neg (Ne.symm h)]
      exact S.sl j t e
/-- a name gets what it is to get; Hn: a heap that everything own is in, and what is new is not -/
theorem SR.setR (S : SR P G0 H0 W n σ f G H) {i : Nat} {v : V} {s : Sl} (hn : ∀ k a, k ≠ i → W k a → Hn a ≠ none) (h0 : ∀ a, Hn a = none → H0 a = none ∧ a ≠ P.s ∧ a ≠ P.l) (r : relR P Hn H0 G H v s) :
    ∃ W', SR P G0 H0 W' n (σ.set i (some v)) (f.set i s) G H ∧ ∀ k a, W' k a → W k a ∨ (k = i ∧ v = .ref a ∧ ∀ d b, s ≠ .v d b) := by
  cases s with
  | v d b => exact ⟨W, S.setV r, fun k a h => .inl h⟩
  | l xs b =>
    obtain ⟨p, vs, rfl, h1, hg, hh, r⟩ := r
    refine ⟨_, S.setO (p := p) (fun k z w => hn k p z w h1) hg (by rw [hh]; simp) (h0 p h1).1 (h0 p h1).2.1 (h0 p h1).2.2 (fun ys z => by rw [hh] at z; cases z) ⟨p, vs, rfl, rfl, hh, r⟩, fun k a h => ?_⟩
    by_cases e : k = i
    · rw [if_pos e] at h; exact .inr ⟨e, by rw [h], fun _ _ z => (by cases z)⟩
    · rw [if_neg e] at h; exact .inl h
  | k ks xs b =>
    obtain ⟨p, vs, rfl, h1, hg, hh, l, r⟩ := r
    refine ⟨_, S.setO (p := p) (fun k z w => hn k p z w h1) hg (by rw [hh]; simp) (h0 p h1).1 (h0 p h1).2.1 (h0 p h1).2.2 (fun ys z => by rw [hh] at z; cases z) ⟨p, vs, rfl, rfl, hh, l, r⟩, fun k a h => ?_⟩
    by_cases e : k = i
    · rw [if_pos e] at h; exact .inr ⟨e, by rw [h], fun _ _ z => (by cases z)⟩
    · rw [if_neg e] at h; exact .inl h
  | kt ks xs b =>
    obtain ⟨p, vs, rfl, h1, hg, hh, l, r⟩ := r
    refine ⟨_, S.setO (p := p) (fun k z w => hn k p z w h1) hg (by rw [hh]; simp) (h0 p h1).1 (h0 p h1).2.1 (h0 p h1).2.2 (fun ys z => by rw [hh] at z; cases z) ⟨p, vs, rfl, rfl, hh, l, r⟩, fun k a h => ?_⟩
    by_cases e : k = i
    · rw [if_pos e] at h; exact .inr ⟨e, by rw [h], fun _ _ z => (by cases z)⟩
    · rw [if_neg e] at h; exact .inl h
  | _ => exact r.elim
theorem SR.newAt (S : SR P G0 H0 W n σ f G H) : ∀ a, H a = none → H0 a = none ∧ a ≠ P.s ∧ a ≠ P.l := fun a h => ⟨S.bs.h0n h, S.bs.sne h⟩
end

section
variable {X : Cx} {cl : Cls0} {N : List Str} {a b c ex : Expr} {pos p : Pos} {x : Str}
/-! ### what a name gets -/
abbrev tR (cl : Cls0) (ev : Ev Sl) : TE := TR cl relR ev
theorem xr_e {ea : Ev DB} (h : PE X ex (tE cl ea)) : PE X ex (tR cl fun f n k => ea f n fun r n1 => k (.v r.1 r.2) n1) :=
  h.imp fun σ H Q ⟨P, G0, H0, W, n, f, G, K, hc, S, e, h⟩ => ⟨P, G0, H0, W, n, f, G, fun r n1 => K (.v r.1 r.2) n1, hc, S, e, fun r n1 hr v G1 H1 S1 L1 q => h _ _ hr v G1 H1 S1 L1 q⟩
theorem tr_l {el : EvL} {t : TE} (h : ∀ σ H Q, tL cl el σ H Q → t σ H Q) : ∀ σ H Q, tR cl (fun f n k => el f n fun xs b n1 => k (.l xs (fls b xs)) n1) σ H Q → t σ H Q :=
  fun σ H Q ⟨P, G0, H0, W, n, f, G, K, hc, S, e, hK⟩ => h σ H Q ⟨P, G0, H0, W, n, f, G, fun r n1 => K (.l r.1 (fls r.2 r.1)) n1, hc, S, e, fun r n1 hr v G1 H1 S1 L1 q => by
    obtain ⟨p, vs, e, h1, h2, h3, h4⟩ := q
    exact hK _ _ hr v G1 H1 S1 L1 ⟨p, vs, e, h1, h2, h3, RdL.fls h4⟩⟩
theorem xr_l {el : EvL} (h : PE X ex (tL cl el)) : PE X ex (tR cl fun f n k => el f n fun xs b n1 => k (.l xs (fls b xs)) n1) := h.imp (tr_l fun _ _ _ w => w)
theorem xr_k : PE X (.Dict [] [] pos) (tR cl fun _ n k => k (.k [] [] true) n) :=
  pe_dnewK.imp fun σ H Q ⟨P, G0, H0, W, n, f, G, K, hc, S, e, h⟩ => fun q hq => by
    have g1 : G q = none := by
      cases z : G q with
      | none => rfl
      | some o => rw [S.bs.gh _ _ z] at hq; cases hq
    exact h _ _ e _ G _ (S.newO hq) (Le.own hq) ⟨q, [], rfl, hq, g1, upd_same, rfl, .nil⟩
theorem xr_kt : PE X (.Dict [] [] pos) (tR cl fun _ n k => k (.kt [] [] true) n) :=
  pe_dnewT.imp fun σ H Q ⟨P, G0, H0, W, n, f, G, K, hc, S, e, h⟩ => fun q hq => by
    have g1 : G q = none := by
      cases z : G q with
      | none => rfl
      | some o => rw [S.bs.gh _ _ z] at hq; cases hq
    exact h _ _ e _ G _ (S.newO hq) (Le.own hq) ⟨q, [], rfl, hq, g1, upd_same, rfl, .nil⟩

/-! ### statements -/
theorem asg_ok {er : Ev Sl} {i : Nat} {te : TE} (h : ∀ σ H Q, tR cl er σ H Q → te σ H Q) (D : Ends) (σ : L2.St) (H : Hp) (w : tS cl (fun K f n => er f n fun s n1 => K.nx (f.set i s) n1) D σ H) : tAsg te (gName i) D σ H := by
  obtain ⟨P, G0, H0, W, n, f, G, K, hc, S, e, hn, hr, hct⟩ := w
  refine h σ H _ ⟨P, G0, H0, W, n, f, G, _, hc, S, e, fun s n1 hs v G1 H1 S1 L1 r => ?_⟩
  obtain ⟨W', S', _⟩ := S1.setR (i := i) (Hn := H) (fun k a _ w => S.wk.h k a w) S.newAt r
  exact hn _ _ hs W' _ G1 H1 L1.g S'
theorem xs_asg {er : Ev Sl} {i : Nat} {sc : Scope} {px : Pos} (so : StoreOk X N sc) (hl : locN N sc i x = true) (h : PE X ex (tR cl er)) (hs : swapsWith ex (some (.Name x px)) pos.line X.env = pure false) :
    PS X (.Assign [.Name x px] ex pos) (tS cl fun K f n => er f n fun s n1 => K.nx (f.set i s) n1) := by
  obtain ⟨h1, h2⟩ := locN_of hl
  obtain ⟨e, nd, hso⟩ := so
  obtain ⟨a1, a2⟩ := hso x h2
  exact (ps_set (by rw [e]; exact nd) (by rw [e]; exact h1) a1 h hs a2).imp fun D σ H w => asg_ok (fun _ _ _ w => w) D σ H w
theorem par_ok {e1 e2 : Ev Sl} {i j : Nat} (hij : i ≠ j) (D : Ends) (σ : L2.St) (H : Hp) (w : tS cl (fun K f n => e1 f n fun s n1 => e2 f n1 fun t n2 => K.nx ((f.set i s).set j t) n2) D σ H) :
    tPar i j (tCons (tR cl e1) (tCons (tR cl e2) tNil)) D σ H := by
  obtain ⟨P, G0, H0, W, n, f, G, K, hc, S, e, hn, hr, hct⟩ := w
  refine ⟨P, G0, H0, W, n, f, G, _, hc, S, e, fun s n1 hs v G1 H1 S1 L1 r1 => ?_⟩
  refine ⟨P, G0, H0, W, n1, f, G1, _, hc, S1, hs, fun t n2 ht u G2 H2 S2 L2 r2 => ?_⟩
  refine ⟨v, u, rfl, ?_⟩
  have r1' := kR.step S.bs.st S1 L1 L2 S2.bs.st r1
  obtain ⟨W', S', hw⟩ := S2.setR (i := i) (Hn := H) (fun k a _ w => S.wk.h k a w) S.newAt r1'
  have own : ∀ k a, W' k a → H1 a ≠ none := fun k a h => by
    rcases hw k a h with z | ⟨_, ea, ns⟩
    · exact S1.wk.h k a z
    · cases s with
      | v d b => exact absurd rfl (ns d b)
      | l xs b => obtain ⟨p, vs, e, _, _, hh, _⟩ := r1; rw [e] at ea; cases ea; rw [hh]; simp
      | k ks xs b => obtain ⟨p, vs, e, _, _, hh, _⟩ := r1; rw [e] at ea; cases ea; rw [hh]; simp
      | kt ks xs b => obtain ⟨p, vs, e, _, _, hh, _⟩ := r1; rw [e] at ea; cases ea; rw [hh]; simp
      | _ => exact r1.elim
  obtain ⟨W2, S2', _⟩ := S'.setR (i := j) (Hn := H1) (fun k a _ w => own k a w) S1.newAt r2
  exact hn _ _ ht W2 _ G2 H2 (fun a o z => L2.g a o (L1.g a o z)) S2'
theorem swap_yes {a b : Expr} {x y : Str} {px py pt pt2 : Pos} {kt k2 : Nat} {env : Env} (kb : env.blockKind = .function) (k1 : env.kindOf x = some .local) (k2' : env.kindOf y = some .local) (hxy : x ≠ y) (pa : plainX a = true) (pb : plainX b = true)
    (hl : (px.line == py.line) = true) (f1 : ([a, b].all (foldedForSure 8)) = false) (f2 : ([a, b].all (constantsAlone 8)) = false) :
    swappedStores [.Tuple [.Name x px, .Name y py] kt pt] (.Tuple [a, b] k2 pt2) env = pure (some [x, y]) := by
  have ns : ∀ {e : Expr}, plainX e = true → ∀ e1 p, e ≠ .Starred e1 p := fun {e} h e1 p z => by rw [z] at h; exact absurd h Bool.false_ne_true
  have hl' : px.line = py.line := by simpa using hl
  have e1 : (x == y) = false := by simpa using hxy
  have e2 : ([x, y] : List Str).eraseDups.length = 2 := by
    have e0 : (y == x) = false := by simpa using Ne.symm hxy
    simp [List.eraseDups, List.eraseDupsBy, List.eraseDupsBy.loop, e0]
  unfold swappedStores
  simp only [f1, f2, kb, k1, k2', hl', pure_bind, List.length_cons, List.length_nil]
  have st : ([a, b].any fun | .Starred .. => true | _ => false) = false := by
    simp only [List.any_cons, List.any_nil, Bool.or_false, Bool.or_eq_false_iff]
    refine ⟨?_, ?_⟩
    · split
      · rename_i q; exact absurd rfl (ns pa _ _)
      · rfl
    · split
      · rename_i q; exact absurd rfl (ns pb _ _)
      · rfl
  have hp1 : (Expr.Name x px).pos = px := rfl
  have hp2 : (Expr.Name y py).pos = py := rfl
  generalize hn : (List.filterMap _ [Expr.Name x px, Expr.Name y py]) = nm
  have hnm : nm = [x, y] := by
    rw [← hn]
    simp only [List.filterMap_cons, List.filterMap_nil, List.head?_cons, Option.map_some, Option.getD_some, hp1, hp2, k1, k2', hl', beq_self_eq_true, Bool.and_self, if_true]
  subst hnm
  refine (if_neg (by simp)).trans ((if_neg ?_).trans ((if_neg ?_).trans ?_))
  · intro z
    have z2 := st
    simp only [List.any_cons, List.any_nil, Bool.or_false, Bool.or_eq_true, Bool.or_eq_false_iff] at z z2
    rcases z with z | z
    · split at z
      · rename_i q; exact absurd rfl (ns pa _ _)
      · cases z
    · split at z
      · rename_i q; exact absurd rfl (ns pb _ _)
      · cases z
  · rw [e2]; simp
  · rfl
theorem xs_par {e1 e2 : Ev Sl} {i j : Nat} {sc : Scope} {y : Str} {px py pt pt2 : Pos} {kt k2 : Nat} (so : StoreOk X N sc) (hc : X.calm = true) (hsc : X.env.scope = sc) (hk : X.env.scope.kind = .function) (h1 : locNL N sc i x = true) (h2 : locNL N sc j y = true) (hij : i ≠ j) (hxy : x ≠ y) (ha : PE X a (tR cl e1)) (hb : PE X b (tR cl e2)) (pa : plainX a = true) (pb : plainX b = true)
    (hl : (px.line == py.line) = true) (f1 : ([a, b].all (foldedForSure 8)) = false) (f2 : ([a, b].all (constantsAlone 8)) = false) :
    PS X (.Assign [.Tuple [.Name x px, .Name y py] kt pt] (.Tuple [a, b] k2 pt2) pos) (tS cl fun K f n => e1 f n fun s n1 => e2 f n1 fun t n2 => K.nx ((f.set i s).set j t) n2) := by
  have loc : ∀ {i x}, locNL N sc i x = true → N[i]? = some x ∧ sc.names.lookup x = some .local := fun {i x} h => by
    unfold locNL at h
    obtain ⟨g1, _⟩ := Bool.and_eq_true_iff.mp h
    obtain ⟨g2, g3⟩ := Bool.and_eq_true_iff.mp g1
    refine ⟨of_decide_eq_true g2, ?_⟩
    split at g3
    · assumption
    · cases g3
  obtain ⟨a1, a2⟩ := loc h1
  obtain ⟨b1, b2⟩ := loc h2
  obtain ⟨e, nd, _⟩ := so
  refine (ps_par hc (by rw [e]; exact nd) (by rw [e]; exact a1) (by rw [e]; exact b1) hij (by rw [hsc]; exact a2) (by rw [hsc]; exact b2) (pa_cons ha (pa_cons hb pa_nil (star_cons pb [] X.env)) (star_cons pa [b] X.env)) ?_ (by rfl)).imp fun D σ H w => par_ok hij D σ H w
  have k1 : X.env.kindOf x = some .local := by show X.env.scope.names.lookup x = _; rw [hsc]; exact a2
  have k2' : X.env.kindOf y = some .local := by show X.env.scope.names.lookup y = _; rw [hsc]; exact b2
  have kb : X.env.blockKind = .function := by unfold Env.blockKind; rw [hk]; rfl
  exact swap_yes kb k1 k2' hxy pa pb hl f1 f2

/-- the text of a value is no comprehension -/
theorem swapsNo {e : Expr} (h : isComp e = false) (t : Option Expr) (l : Nat) (env : Env) : swapsWith e t l env = pure false := by
  cases e <;> first | rfl | exact absurd h.symm Bool.false_ne_true
theorem swapsSole {e t : Expr} (h : isComp e = false) (l : Nat) (env : Env) : swapsWithSole [t] e l env = pure false := by
  cases e <;> first | rfl | exact absurd h.symm Bool.false_ne_true
/-- what names get, one value behind the other; H: the heap ahead -/
def relRs (P : Pt) : Hp → Hp → Hp → Hp → List V → List Sl → Prop
  | _, _, _, _, [], [] => True
  | H, H0, G', H', v :: vs, s :: ss => relR P H H0 G' H' v s ∧ ∃ H1, (∀ a, H a ≠ none → H1 a ≠ none) ∧ (∀ a, v = .ref a → (∀ d b, s ≠ .v d b) → H1 a ≠ none) ∧ (∀ a, H1 a = none → H0 a = none ∧ a ≠ P.s ∧ a ≠ P.l) ∧ relRs P H1 H0 G' H' vs ss
  | _, _, _, _, _, _ => False
abbrev tRs (cl : Cls0) (ev : Fr → Nat → (List Sl → Nat → Prop) → Prop) : TA := TR cl relRs ev
theorem xrs_nil : PA X [] (tRs cl fun _ n k => k [] n) := pa_nil.imp fun σ H Q ⟨P, G0, H0, W, n, f, G, K, hc, S, e, h⟩ => h _ _ e _ G H S Le.rfl' trivial
theorem xrs_cons {e1 : Ev Sl} {es : Fr → Nat → (List Sl → Nat → Prop) → Prop} {xs : List Expr} (h1 : PE X a (tR cl e1)) (pa : plainX a = true) (hs : PA X xs (tRs cl es)) : PA X (a :: xs) (tRs cl fun f n k => e1 f n fun s n1 => es f n1 fun ss n2 => k (s :: ss) n2) :=
  (pa_cons h1 hs (star_cons pa xs X.env)).imp fun σ H Q ⟨P, G0, H0, W, n, f, G, K, hc, S, e, h⟩ => ⟨P, G0, H0, W, n, f, G, _, hc, S, e, fun s n1 hs v G1 H1 S1 L1 r1 => ⟨P, G0, H0, W, n1, f, G1, _, hc, S1, hs, fun ss n2 hss vs G2 H2 S2 L2 r2 => by
    refine h _ _ hss (v :: vs) G2 H2 S2 (Le.trans S.bs S1.bs.st L1 L2) ⟨kR.step S.bs.st S1 L1 L2 S2.bs.st r1, H1, fun a q z => q (L1.none S.bs.st S1.bs.st z), fun a ea ns => ?_, S1.newAt, r2⟩
    cases s with
    | v d b => exact absurd rfl (ns d b)
    | l xs b => obtain ⟨p, vs, e, _, _, hh, _⟩ := r1; rw [e] at ea; cases ea; rw [hh]; simp
    | k ks xs b => obtain ⟨p, vs, e, _, _, hh, _⟩ := r1; rw [e] at ea; cases ea; rw [hh]; simp
    | kt ks xs b => obtain ⟨p, vs, e, _, _, hh, _⟩ := r1; rw [e] at ea; cases ea; rw [hh]; simp
    | _ => exact r1.elim⟩⟩
def setVs : L2.St → List Nat → List V → L2.St
  | σ, t :: ts, v :: vs => setVs (σ.set t (some v)) ts vs
  | σ, _, _ => σ
theorem SR.setSs {P : Pt} {G0 H0 G H : Hp} {n : Nat} : ∀ {ts : List Nat} {ss : List Sl} {vs : List V} {Hs : Hp} {W : Nat → Addr → Prop} {σ : L2.St} {f : Fr}, SR P G0 H0 W n σ f G H → relRs P Hs H0 G H vs ss → (∀ k a, W k a → Hs a ≠ none) → (∀ a, Hs a = none → H0 a = none ∧ a ≠ P.s ∧ a ≠ P.l) →
    ∃ W', SR P G0 H0 W' n (setVs σ ts vs) (DL.setSs f ts ss) G H
  | [], ss, vs, Hs, W, σ, f, S, r, _, _ => ⟨W, by cases vs <;> cases ss <;> exact S⟩
  | t :: ts, [], [], Hs, W, σ, f, S, r, _, _ => ⟨W, S⟩
  | t :: ts, [], _ :: _, _, _, _, _, _, r, _, _ => r.elim
  | t :: ts, _ :: _, [], _, _, _, _, _, r, _, _ => r.elim
  | t :: ts, s :: ss, v :: vs, Hs, W, σ, f, S, ⟨r, H1, m, o, nw, rs⟩, hw, h0 => by
    obtain ⟨W', S', hW⟩ := S.setR (i := t) (Hn := Hs) (fun k a _ w => hw k a w) h0 r
    refine SR.setSs (ts := ts) S' rs (fun k a w => ?_) nw
    rcases hW k a w with z | ⟨_, ea, ns⟩
    · exact m a (hw k a z)
    · exact o a ea ns
theorem relR_upd {P : Pt} {Hs H0 G H : Hp} {q : Addr} {u : HO} (hq : H q = none) {v : V} {s : Sl} (r : relR P Hs H0 G H v s) : relR P Hs H0 G (L2.upd H q u) v s := by
  have ne : ∀ {p o}, H p = some o → p ≠ q := fun e z => by rw [z, hq] at e; cases e
  cases s with
  | v d b => exact r
  | l xs b => obtain ⟨p, vs, e, h1, h2, hh, r⟩ := r; exact ⟨p, vs, e, h1, h2, by rw [upd_ne (ne hh)]; exact hh, r⟩
  | k ks xs b => obtain ⟨p, vs, e, h1, h2, hh, r⟩ := r; exact ⟨p, vs, e, h1, h2, by rw [upd_ne (ne hh)]; exact hh, r⟩
  | kt ks xs b => obtain ⟨p, vs, e, h1, h2, hh, r⟩ := r; exact ⟨p, vs, e, h1, h2, by rw [upd_ne (ne hh)]; exact hh, r⟩
  | _ => exact r.elim
theorem relRs_upd {P : Pt} {H0 G H : Hp} {q : Addr} {u : HO} (hq : H q = none) : ∀ {Hs : Hp} {vs : List V} {ss : List Sl}, relRs P Hs H0 G H vs ss → relRs P Hs H0 G (L2.upd H q u) vs ss
  | _, [], [], _ => trivial
  | _, [], _ :: _, r => r.elim
  | _, _ :: _, [], r => r.elim
  | _, v :: vs, s :: ss, ⟨r, H1, a, b, c, rs⟩ => ⟨relR_upd hq r, H1, a, b, c, relRs_upd hq rs⟩
theorem relRs_len {P : Pt} {H0 G H : Hp} : ∀ {Hs : Hp} {vs : List V} {ss : List Sl}, relRs P Hs H0 G H vs ss → vs.length = ss.length
  | _, [], [], _ => rfl
  | _, [], _ :: _, r => r.elim
  | _, _ :: _, [], r => r.elim
  | _, v :: vs, s :: ss, ⟨_, _, _, _, _, rs⟩ => congrArg Nat.succ (relRs_len rs)
theorem gNs_set : ∀ {ts : List Nat} {vs : List V} {σ : L2.St} {H : Hp} {Q : L2.St → Hp → Prop}, vs.length = ts.length → Q (setVs σ ts vs) H → gNs ts vs σ H Q
  | [], [], _, _, _, _, h => ⟨rfl, h⟩
  | [], _ :: _, _, _, _, l, _ => by cases l
  | _ :: _, [], _, _, _, l, _ => by cases l
  | t :: ts, v :: vs, σ, H, Q, l, h => ⟨v, vs, rfl, gNs_set (Nat.succ.inj l) h⟩
theorem swap_yes3 {a b c : Expr} {x y z : Str} {px py pz pt pt2 : Pos} {kt k2 : Nat} {env : Env} (kb : env.blockKind = .function) (k1 : env.kindOf x = some .local) (k2' : env.kindOf y = some .local) (k3 : env.kindOf z = some .local) (hn : [x, y, z].Nodup) (pa : plainX a = true) (pb : plainX b = true) (pc : plainX c = true)
    (hl : (px.line == py.line) = true) (hl3 : (px.line == pz.line) = true) (f1 : ([a, b, c].all (foldedForSure 8)) = false) (f2 : ([a, b, c].all (constantsAlone 8)) = false) :
    swappedStores [.Tuple [.Name x px, .Name y py, .Name z pz] kt pt] (.Tuple [a, b, c] k2 pt2) env = pure (some [x, y, z]) := by
  have ns : ∀ {e : Expr}, plainX e = true → ∀ e1 p, e ≠ .Starred e1 p := fun {e} h e1 p z => by rw [z] at h; exact absurd h Bool.false_ne_true
  have hl' : px.line = py.line := by simpa using hl
  have hl3' : px.line = pz.line := by simpa using hl3
  have hxy : x ≠ y := fun e => by rw [e] at hn; simp at hn
  have hxz : x ≠ z := fun e => by rw [e] at hn; simp at hn
  have hyz : y ≠ z := fun e => by rw [e] at hn; simp at hn
  have e2 : ([x, y, z] : List Str).eraseDups.length = 3 := by
    have e0 : (y == x) = false := by simpa using Ne.symm hxy
    have e1 : (z == x) = false := by simpa using Ne.symm hxz
    have e3 : (z == y) = false := by simpa using Ne.symm hyz
    simp [List.eraseDups, List.eraseDupsBy, List.eraseDupsBy.loop, e0, e1, e3]
  have hy1 : (py.line == px.line) = true := by rw [hl']; simp
  have hz1 : (pz.line == px.line) = true := by rw [hl3']; simp
  unfold swappedStores
  simp only [f1, f2, kb, k1, k2', k3, pure_bind, List.length_cons, List.length_nil]
  have st : ([a, b, c].any fun | .Starred .. => true | _ => false) = false := by
    simp only [List.any_cons, List.any_nil, Bool.or_false, Bool.or_eq_false_iff]
    refine ⟨?_, ?_, ?_⟩
    · split
      · rename_i q; exact absurd rfl (ns pa _ _)
      · rfl
    · split
      · rename_i q; exact absurd rfl (ns pb _ _)
      · rfl
    · split
      · rename_i q; exact absurd rfl (ns pc _ _)
      · rfl
  have hp1 : (Expr.Name x px).pos = px := rfl
  have hp2 : (Expr.Name y py).pos = py := rfl
  have hp3 : (Expr.Name z pz).pos = pz := rfl
  generalize hn' : (List.filterMap _ [Expr.Name x px, Expr.Name y py, Expr.Name z pz]) = nm
  have hnm : nm = [x, y, z] := by
    rw [← hn']
    simp only [List.filterMap_cons, List.filterMap_nil, List.head?_cons, Option.map_some, Option.getD_some, hp1, hp2, hp3, k1, k2', k3, hy1, hz1, beq_self_eq_true, Bool.and_self, if_true]
  subst hnm
  refine (if_neg (by simp)).trans ((if_neg ?_).trans ((if_neg ?_).trans ?_))
  · intro z'
    have z2 := st
    simp only [List.any_cons, List.any_nil, Bool.or_false, Bool.or_eq_true, Bool.or_eq_false_iff] at z' z2
    rcases z' with z' | z' | z'
    · split at z'
      · rename_i q; exact absurd rfl (ns pa _ _)
      · cases z'
    · split at z'
      · rename_i q; exact absurd rfl (ns pb _ _)
      · cases z'
    · split at z'
      · rename_i q; exact absurd rfl (ns pc _ _)
      · cases z'
  · rw [e2]; simp
  · rfl
theorem locNL_of {sc : Scope} {i : Nat} {x : Str} (h : locNL N sc i x = true) : N[i]? = some x ∧ sc.names.lookup x = some .local := by
  unfold locNL at h
  obtain ⟨g1, _⟩ := Bool.and_eq_true_iff.mp h
  obtain ⟨g2, g3⟩ := Bool.and_eq_true_iff.mp g1
  refine ⟨of_decide_eq_true g2, ?_⟩
  split at g3
  · assumption
  · cases g3
theorem xs_par3 {er : Fr → Nat → (List Sl → Nat → Prop) → Prop} {i j l : Nat} {sc : Scope} {y z : Str} {px py pz pt pt2 : Pos} {kt k2 : Nat} (so : StoreOk X N sc) (hc : X.calm = true) (hsc : X.env.scope = sc) (hk : X.env.scope.kind = .function) (h1 : locNL N sc i x = true) (h2 : locNL N sc j y = true) (h3 : locNL N sc l z = true)
    (hij : i ≠ j) (hil : i ≠ l) (hjl : j ≠ l) (hn : [x, y, z].Nodup) (ha : PA X [a, b, c] (tRs cl er)) (pa : plainX a = true) (pb : plainX b = true) (pc : plainX c = true)
    (hl : (px.line == py.line) = true) (hl3 : (px.line == pz.line) = true) (f1 : ([a, b, c].all (foldedForSure 8)) = false) (f2 : ([a, b, c].all (constantsAlone 8)) = false) :
    PS X (.Assign [.Tuple [.Name x px, .Name y py, .Name z pz] kt pt] (.Tuple [a, b, c] k2 pt2) pos) (tS cl fun K f n => er f n fun ss n1 => ss.length = 3 ∧ K.nx (DL.setSs f [i, j, l] ss) n1) := by
  obtain ⟨a1, a2⟩ := locNL_of h1
  obtain ⟨b1, b2⟩ := locNL_of h2
  obtain ⟨c1, c2⟩ := locNL_of h3
  obtain ⟨e, nd, _⟩ := so
  have k1 : X.env.kindOf x = some .local := by show X.env.scope.names.lookup x = _; rw [hsc]; exact a2
  have k2' : X.env.kindOf y = some .local := by show X.env.scope.names.lookup y = _; rw [hsc]; exact b2
  have k3 : X.env.kindOf z = some .local := by show X.env.scope.names.lookup z = _; rw [hsc]; exact c2
  have kb : X.env.blockKind = .function := by unfold Env.blockKind; rw [hk]; rfl
  refine (ps_par3 hc (by rw [e]; exact nd) (by rw [e]; exact a1) (by rw [e]; exact b1) (by rw [e]; exact c1) hij hil hjl (by rw [hsc]; exact a2) (by rw [hsc]; exact b2) (by rw [hsc]; exact c2) ha (swap_yes3 kb k1 k2' k3 hn pa pb pc hl hl3 f1 f2) (by rfl)).imp fun D σ H w => ?_
  obtain ⟨P, G0, H0, W, n, f, G, K, hcl, S, ev, w⟩ := w
  obtain ⟨hn, hr, hct⟩ := w
  refine ⟨P, G0, H0, W, n, f, G, _, hcl, S, ev, fun ss n1 ⟨h3, hs⟩ vs G1 H1 S1 L1 r => ?_⟩
  have lv := relRs_len r
  rw [h3] at lv
  match vs, lv with
  | [u, v, w], _ =>
    obtain ⟨W', S'⟩ := SR.setSs (ts := [i, j, l]) S1 r (fun k a w => S.wk.h k a w) S.newAt
    exact ⟨u, v, w, rfl, hn _ _ hs W' _ G1 H1 L1.g S'⟩
theorem xs_parT {er : Fr → Nat → (List Sl → Nat → Prop) → Prop} {sc : Scope} {ts : List Nat} {es vs : List Expr} {k k2 : Nat} {pt pt2 : Pos} (so : StoreOk X N sc) (hc : X.calm = true) (ht : chkTs N sc ts es = true) (ha : PA X vs (tRs cl er)) (hw : swappedStores [.Tuple es k pt] (.Tuple vs k2 pt2) X.env = pure none) (few : ts.length ≤ 10) :
    PS X (.Assign [.Tuple es k pt] (.Tuple vs k2 pt2) pos) (tS cl fun K f n => er f n fun ss n1 => ss.length = ts.length ∧ K.nx (DL.setSs f ts ss) n1) := by
  obtain ⟨h1, h2⟩ := pgs_of so ht
  obtain ⟨h3, h4⟩ := assigns_of (env := X.env) ht
  refine (ps_asg (pe_tup ha) (pg_tup (k := k) (pos := pt) hc h1 (h3.trans h2) h4) (swapsSole rfl _ _) hw (by rfl)).imp fun D σ H ⟨P, G0, H0, W, n, f, G, K, hcl, S, e, hn, hr, hct⟩ => ?_
  refine ⟨P, G0, H0, W, n, f, G, _, hcl, S, e, fun ss n1 ⟨h3, hs⟩ us G1 H1 S1 L1 r => ?_⟩
  have lv := relRs_len r
  refine ⟨by rw [lv, h3]; exact Nat.le_trans few (by rw [sizeLine_eq]; decide), fun q hq => ?_⟩
  obtain ⟨W', S'⟩ := SR.setSs (ts := ts) (S1.newO hq) (relRs_upd hq r) (fun k a w => S.wk.h k a w) S.newAt
  exact ⟨_, _, rfl, SqT.of upd_same, by rw [lv, h3], gNs_set (by rw [lv, h3]) (hn _ _ hs W' _ G1 _ L1.g S')⟩

theorem xs_unp {ea : Ev DB} {sc : Scope} {ts : List Nat} {es : List Expr} {k : Nat} {pt : Pos} (so : StoreOk X N sc) (hc : X.calm = true) (ht : chkTs N sc ts es = true) (ha : PE X a (tE cl ea)) (hcomp : isComp a = false) (hw : swappedStores [.Tuple es k pt] a X.env = pure none) :
    PS X (.Assign [.Tuple es k pt] a pos) (tS cl fun K f n => ea f n fun x n1 => match x with
      | (.tup xs, b) => xs.length = ts.length ∧ ∃ f', setTs f ts (xs.map fun d => (d, fl b d)) = some f' ∧ K.nx f' n1
      | _ => False) := by
  obtain ⟨h1, h2⟩ := pgs_of so ht
  obtain ⟨h3, h4⟩ := assigns_of (env := X.env) ht
  refine (ps_asg ha (pg_tup (k := k) (pos := pt) hc h1 (h3.trans h2) h4) (swapsSole hcomp _ _) hw (by rfl)).imp fun D σ H ⟨P, G0, H0, W, n, f, G, K, hcl, S, e, hn, hr, hct⟩ => ?_
  refine ⟨P, G0, H0, W, n, f, G, _, hcl, S, e, fun x n1 hx v G1 H1 S1 L1 r1 => ?_⟩
  obtain ⟨x, bx⟩ := x
  cases x with
  | tup xs =>
    obtain ⟨hl, f', h5, kn⟩ := hx
    have r1' : RdD P (rg bx G1 H0) v (.tup xs) := r1
    cases r1' with
    | tup h6 r2 =>
      exact ⟨_, _, rfl, SqT.of (S1.bs.gh _ _ (rg_sub _ _ h6)), by rw [r2.length, hl], SR.setTs S1 (rdB_all r2) h5 fun σ' S' _ => hn _ _ kn W σ' G1 H1 L1.g S'⟩
  | _ => exact (show False from hx).elim
theorem SR.putOwn {P : Pt} {G0 H0 G H : Hp} {W : Nat → Addr → Prop} {n : Nat} {σ : L2.St} {f : Fr} (S : SR P G0 H0 W n σ f G H) {i : Nat} {q : Addr} {o u : HO} {s : Sl} (w : W i q) (hq : H q = some u) (hu : ∀ xs, u ≠ .tup xs) (ho : ∀ xs, o ≠ .tup xs) (r : SlR P G (L2.upd H q o) H0 (W i) (σ[i]?).join s) :
    SR P G0 H0 W n σ (f.set i s) G (L2.upd H q o) := by
  have g := S.wk.g i q w
  have h0 := S.wk.h0 i q w
  have ss := S.wk.s i q w
  have gh : Sub G (L2.upd H q o) := fun a u e => by
    have : a ≠ q := fun z => by rw [z, g] at e; cases e
    rw [upd_ne this]; exact S.bs.gh a u e
  refine ⟨⟨gh, S.bs.g0, S.bs.gx, fun a u e x y => ?_, S.bs.st.upd ss.1 ss.2, S.bs.gs, S.bs.gl⟩, ⟨S.wk.inj, fun i a z => ?_, S.wk.g, S.wk.h0, S.wk.s, fun k a z ys e => ?_⟩, by rw [List.length_set]; exact S.len, fun j t e => ?_⟩
  · have : a ≠ q := fun z => by rw [z, h0] at e; cases e
    rw [upd_ne this]; exact S.bs.h0 a u e x y
  · by_cases y : a = q
    · rw [y, upd_same]; simp
    · rw [upd_ne y]; exact S.wk.h i a z
  · by_cases y : a = q
    · subst y
      rw [upd_same] at e
      exact ho ys (Option.some.inj e)
    · rw [upd_ne y] at e; exact S.wk.nt k a z ys e
  · by_cases hij : i = j
    · subst hij
      have hi : i < f.length := by
        rcases Nat.lt_or_ge i f.length with z | z
        · exact z
        · rw [List.getElem?_eq_none (by rw [List.length_set]; exact z)] at e; cases e
      rw [List.getElem?_set_self hi] at e
      cases e
      exact r
    · rw [List.getElem?_set_ne hij] at e
      have r' := S.sl j t e
      have ne : ∀ p, W j p → p ≠ q := fun p z y => hij (S.wk.inj i j q w (by rw [← y]; exact z))
      cases t with
      | no => trivial
      | v d b => exact r'
      | l xs b => obtain ⟨p, vs, e1, w1, h1, r1⟩ := r'; exact ⟨p, vs, e1, w1, by rw [upd_ne (ne p w1)]; exact h1, r1⟩
      | k ks xs b => obtain ⟨p, vs, e1, w1, h1, l1, r1⟩ := r'; exact ⟨p, vs, e1, w1, by rw [upd_ne (ne p w1)]; exact h1, l1, r1⟩
      | kt ks xs b => obtain ⟨p, vs, e1, w1, h1, l1, r1⟩ := r'; exact ⟨p, vs, e1, w1, by rw [upd_ne (ne p w1)]; exact h1, l1, r1⟩
      | o c ns xs b => obtain ⟨p, C, dx, cs, vs, e1, w1, hc, h1, l1, r1⟩ := r'; exact ⟨p, C, dx, cs, vs, e1, w1, hc, by rw [upd_ne (ne p w1)]; exact h1, l1, r1⟩
      | scr => exact r'
      | sep d =>
        obtain ⟨v, Sg, e1, r1, h1, m⟩ := r'
        refine ⟨v, Sg, e1, r1, fun a u z => ?_, m⟩
        have ho := h1 a u z
        have : a ≠ q := fun y => by
          rcases m a u z with ⟨xs, rfl⟩ | w1
          · rw [y, hq] at ho; exact hu xs (Option.some.inj ho)
          · exact ne a w1 y
        rw [upd_ne this]; exact ho
theorem slot_at {σ : L2.St} {i : Nat} {v : V} (h : (σ[i]?).join = some v) : σ[i]? = some (some v) := by
  cases q : σ[i]? with
  | none => rw [q] at h; cases h
  | some o => rw [q] at h; exact congrArg some h
theorem noSlice {i : Expr} (h : plainX i = true) {o : Expr} {env : Env} {pos : Pos} : ∀ v, assign (.Subscript o i pos) env v = (do
      let ov ← holding [v] (eval o env)
      let iv ← holding [v, ov] (eval i env)
      standAt pos
      holding [v, ov, iv] (setItem ov iv v)
      release [v, ov, iv] []) := by
  intro v
  cases i <;> first | rfl | exact absurd h Bool.false_ne_true
/-- the own list, the own dict of a name -/
theorem ownL {P : Pt} {G0 H0 G H : Hp} {W : Nat → Addr → Prop} {n : Nat} {σ : L2.St} {f : Fr} (S : SR P G0 H0 W n σ f G H) {i : Nat} {xs : List D} {b : Bool} (hf : f[i]? = some (.l xs b)) : ∃ p vs, σ[i]? = some (some (.ref p)) ∧ W i p ∧ H p = some (.lst vs) ∧ RdL P (rg b G H0) vs xs := by
  obtain ⟨p, vs, e, w, h, r⟩ := S.sl i _ hf
  exact ⟨p, vs, slot_at e, w, h, r⟩
theorem xs_setL {ea eb : Ev DB} {i : Nat} {px pt : Pos} (hN : X.N[i]? = some x) (hv : Vis X.env.scope x) (hd : (x == ("__debug__" : Str)) = false) (hcd : (x == ("__classdict__" : Str)) = false) (ha : PE X a (tE cl ea)) (hb : PE X b (tE cl eb)) (pb : plainX b = true) (hcomp : isComp a = false) :
    PS X (.Assign [.Subscript (.Name x px) b pt] a pos) (tS cl fun K f n => match f[i]? with
      | some (.l xs b) => ea f n fun x n1 => eb f n1 fun y n2 => match y.1 with
        | .int m => ∃ j, ixN xs.length m = some j ∧ K.nx (f.set i (.l (xs.set j x.1) (b && x.2))) n2
        | _ => False
      | _ => False) := by
  refine (ps_asg ha (pg_sub (pos := pt) (pe_var (pos := px) hN hv hd hcd) hb set_list (noSlice pb)) (swapsSole hcomp _ _) (by cases a <;> rfl) (by rfl)).imp fun D σ H ⟨P, G0, H0, W, n, f, G, K, hcl, S, e, hn, hr, hct⟩ => ?_
  dsimp only at e
  split at e
  · rename_i xs bl hf
    refine ⟨P, G0, H0, W, n, f, G, _, hcl, S, e, fun r n1 h1 v G1 H1 S1 L1 r1 => ?_⟩
    obtain ⟨q, vs, e1, w, h2, r2⟩ := ownL S1 hf
    refine ⟨_, e1, P, G0, H0, W, n1, f, G1, _, hcl, S1, h1, fun y n2 hy u G2 H2 S2 L2 r3 => ?_⟩
    obtain ⟨y, by'⟩ := y
    cases y with
    | int m =>
      obtain ⟨j, hj, kn⟩ := hy
      cases int_of r3
      obtain ⟨q', vs', e1', w', h2', r2'⟩ := ownL S2 hf
      rw [e1] at e1'
      cases e1'
      refine ⟨q, vs', m, j, rfl, rfl, h2', by rw [r2'.length]; exact hj, hn _ _ kn W σ G2 _ (fun a o z => L2.g a o (L1.g a o z)) (S2.putOwn w' h2' (fun _ z => by cases z) (fun _ z => by cases z) ?_)⟩
      refine ⟨q, vs'.set j v, by rw [e1]; rfl, w', upd_same, RdL.set ?_ j (r2'.mono (rg_le fun z => (Bool.and_eq_true_iff.mp z).1))⟩
      exact RdD.mono (fun a o z => rg_mono L2.g a o (rg_le (fun z => (Bool.and_eq_true_iff.mp z).2) a o z)) (show RdD P (rg r.2 G1 H0) v r.1 from r1)
    | _ => exact (show False from hy).elim
  · exact e.elim
theorem putK_len {κ : Type} [DecidableEq κ] {ks : List κ} {vs : List V} (l : ks.length = vs.length) : (ks.zip vs).length = ks.length := by rw [List.length_zip, l, Nat.min_self]
/-- putK by places -/
theorem putX_map {κ : Type} [DecidableEq κ] {P : Pt} {G : Hp} {j : κ} {v : V} {d : D} (rd : RdD P G v d) : ∀ {ks : List κ} {vs : List V} {xs : List D}, ks.length = vs.length → RdL P G vs xs →
    ∃ ws, (ks.zip vs).map (fun kv => if kv.1 = j then (kv.1, v) else kv) = ks.zip ws ∧ ks.length = ws.length ∧ RdL P G ws (List.zipWith (fun k x => if k = j then d else x) ks xs)
  | [], _, _, _, _ => ⟨[], rfl, rfl, .nil⟩
  | k :: ks, v0 :: vs, _, l, .cons r rs => by
    obtain ⟨ws, e, l1, r1⟩ := putX_map rd (Nat.succ.inj l) rs
    by_cases h : k = j
    · refine ⟨v :: ws, ?_, by rw [List.length_cons, List.length_cons, l1], ?_⟩
      · rw [List.zip_cons_cons, List.map_cons, List.zip_cons_cons, e]; exact congrArg (· :: ks.zip ws) (if_pos h)
      · rw [List.zipWith_cons_cons, if_pos h]; exact .cons rd r1
    · refine ⟨v0 :: ws, ?_, by rw [List.length_cons, List.length_cons, l1], ?_⟩
      · rw [List.zip_cons_cons, List.map_cons, List.zip_cons_cons, e]; exact congrArg (· :: ks.zip ws) (if_neg h)
      · rw [List.zipWith_cons_cons, if_neg h]; exact .cons r r1
theorem zip_any {κ : Type} [DecidableEq κ] {j : κ} : ∀ {ks : List κ} {vs : List V}, ks.length = vs.length → ((ks.zip vs).any (fun kv => decide (kv.1 = j)) = true ↔ j ∈ ks)
  | [], _, _ => by simp
  | k :: ks, v :: vs, l => by
    rw [List.zip_cons_cons, List.any_cons, Bool.or_eq_true, zip_any (Nat.succ.inj l), List.mem_cons, decide_eq_true_iff]
    exact ⟨fun h => h.imp Eq.symm id, fun h => h.imp Eq.symm id⟩
theorem putK_zip {κ : Type} [DecidableEq κ] {P : Pt} {G : Hp} {ks : List κ} {vs : List V} {xs : List D} (j : κ) {v : V} {d : D} (l : ks.length = vs.length) (r : RdL P G vs xs) (rd : RdD P G v d) :
    ∃ ws, putK (ks.zip vs) j v = (putKs ks j).zip ws ∧ (putKs ks j).length = ws.length ∧ RdL P G ws (putXs ks xs j d) := by
  unfold putK putKs putXs
  by_cases h : j ∈ ks
  · rw [if_pos ((zip_any l).mpr h), if_pos h, if_pos h]
    exact putX_map rd l r
  · rw [if_neg (fun z => h ((zip_any l).mp z)), if_neg h, if_neg h]
    refine ⟨vs ++ [v], ?_, by rw [List.length_append, List.length_append, l]; rfl, r.append (.cons rd .nil)⟩
    rw [List.zip_append l]; rfl
/-- a key's value -/
theorem xs_setK {ea eb : Ev DB} {i : Nat} {px pt : Pos} (hu : X.A.units + 1 < cLine) (hN : X.N[i]? = some x) (hv : Vis X.env.scope x) (hd : (x == ("__debug__" : Str)) = false) (hcd : (x == ("__classdict__" : Str)) = false) (ha : PE X a (tE cl ea)) (hb : PE X b (tE cl eb)) (pb : plainX b = true) (hcomp : isComp a = false) :
    PS X (.Assign [.Subscript (.Name x px) b pt] a pos) (tS cl fun K f n => match f[i]? with
      | some (.k ks xs b) => ea f n fun x n1 => eb f n1 fun y n2 => ∃ j, y.1.key = some j ∧ ks.length < sizeLine ∧ K.nx (f.set i (.k (putKs ks j) (putXs ks xs j x.1) (b && x.2))) n2
      | some (.kt ks xs b) => ea f n fun x n1 => eb f n1 fun y n2 => match y.1 with
        | .tup ys => ∃ j, keysOf ys = some j ∧ ks.length < sizeLine ∧ K.nx (f.set i (.kt (putKs ks j) (putXs ks xs j x.1) (b && x.2))) n2
        | _ => False
      | _ => False) := by
  refine (ps_asg ha (pg_sub (pos := pt) (pe_var (pos := px) hN hv hd hcd) hb (set_dict hu) (noSlice pb)) (swapsSole hcomp _ _) (by cases a <;> rfl) (by rfl)).imp fun D σ H ⟨P, G0, H0, W, n, f, G, K, hcl, S, e, hn, hr, hct⟩ => ?_
  dsimp only at e
  split at e
  · rename_i ks xs bl hf
    refine ⟨P, G0, H0, W, n, f, G, _, hcl, S, e, fun r n1 h1 v G1 H1 S1 L1 r1 => ?_⟩
    obtain ⟨q, vs, e1, w, h2, l2, r2⟩ := S1.sl i _ hf
    refine ⟨_, slot_at e1, P, G0, H0, W, n1, f, G1, _, hcl, S1, h1, fun y n2 ⟨j, hj, hl, kn⟩ u G2 H2 S2 L2 r3 => ?_⟩
    obtain ⟨q', vs', e1', w', h2', l2', r2'⟩ := S2.sl i _ hf
    rw [e1] at e1'
    cases e1'
    obtain ⟨ws, ew, lw, rw'⟩ := putK_zip (P := P) (G := rg (bl && r.2) G2 H0) (d := r.1) (v := v) j l2' (r2'.mono (rg_le fun z => (Bool.and_eq_true_iff.mp z).1))
      (RdD.mono (fun a o z => rg_mono L2.g a o (rg_le (fun z => (Bool.and_eq_true_iff.mp z).2) a o z)) (show RdD P (rg r.2 G1 H0) v r.1 from r1))
    have ek : u = kV j := key_ofD r3 hj
    refine ⟨q, _, rfl, ek ▸ DPut.k h2' (by rw [putK_len l2']; exact hl), hn _ _ kn W σ G2 _ (fun a o z => L2.g a o (L1.g a o z)) (S2.putOwn w' h2' (fun _ z => by cases z) (fun _ z => by cases z) ?_)⟩
    exact ⟨q, ws, e1, w', by rw [upd_same, ew], lw, rw'⟩
  · rename_i ks xs bl hf
    refine ⟨P, G0, H0, W, n, f, G, _, hcl, S, e, fun r n1 h1 v G1 H1 S1 L1 r1 => ?_⟩
    obtain ⟨q, vs, e1, w, h2, l2, r2⟩ := S1.sl i _ hf
    refine ⟨_, slot_at e1, P, G0, H0, W, n1, f, G1, _, hcl, S1, h1, fun y n2 hy u G2 H2 S2 L2 r3 => ?_⟩
    obtain ⟨y, by'⟩ := y
    cases y with
    | tup ys =>
      obtain ⟨j, hj, hl, kn⟩ := hy
      obtain ⟨q', vs', e1', w', h2', l2', r2'⟩ := S2.sl i _ hf
      rw [e1] at e1'
      cases e1'
      obtain ⟨ws, ew, lw, rw'⟩ := putK_zip (P := P) (G := rg (bl && r.2) G2 H0) (d := r.1) (v := v) j l2' (r2'.mono (rg_le fun z => (Bool.and_eq_true_iff.mp z).1))
        (RdD.mono (fun a o z => rg_mono L2.g a o (rg_le (fun z => (Bool.and_eq_true_iff.mp z).2) a o z)) (show RdD P (rg r.2 G1 H0) v r.1 from r1))
      cases (show RdD P (rg by' G2 H0) u (.tup ys) from r3) with
      | tup h6 r6 =>
        have ek := keys_ofD r6 hj
        subst ek
        refine ⟨q, _, rfl, DPut.t h2' (S2.bs.gh _ _ (rg_sub _ _ h6)) (by rw [putK_len l2']; exact hl), hn _ _ kn W σ G2 _ (fun a o z => L2.g a o (L1.g a o z)) (S2.putOwn w' h2' (fun _ z => by cases z) (fun _ z => by cases z) ?_)⟩
        exact ⟨q, ws, e1, w', by rw [upd_same, ew], lw, rw'⟩
    | _ => exact (show False from hy).elim
  · exact e.elim
theorem xs_app {ea : Ev DB} {i : Nat} {px ap cp : Pos} (hN : X.N[i]? = some x) (hv : Vis X.env.scope x) (hd : (x == ("__debug__" : Str)) = false) (hcd : (x == ("__classdict__" : Str)) = false) (ha : PE X a (tE cl ea)) (pa : plainX a = true) (hline : (ap.endLine == cp.line) = true) :
    PS X (.Expr (.Call (.Attribute (.Name x px) "append" ap) [a] [] cp) pos) (tS cl fun K f n => match f[i]? with
      | some (.l xs b) => ea f n fun x n1 => xs.length < sizeLine ∧ K.nx (f.set i (.l (xs ++ [x.1]) (b && x.2))) n1
      | _ => False) := by
  refine (ps_expr (pe_bm PySem.F.plainAttrs_list PySem.F.slot_list_append PySem.F.type_list_append mt_append (pe_var (pos := px) hN hv hd hcd) (pa_cons ha pa_nil (star_cons pa [] X.env)) (by rfl) ?_ hline (star_cons pa [] X.env) (by rfl)) (by rfl)).imp fun D σ H ⟨P, G0, H0, W, n, f, G, K, hcl, S, e, hn, hr, hct⟩ => ?_
  · rw [star_cons pa]; rfl
  dsimp only at e
  split at e
  · rename_i xs bl hf
    obtain ⟨q, vs, e1, w, h2, r2⟩ := ownL S hf
    refine ⟨_, e1, .inl ⟨rfl, _, .inl (.inl h2)⟩, P, G0, H0, W, n, f, G, _, hcl, S, e, fun r n1 ⟨hl, kn⟩ v G1 H1 S1 L1 r1 => ?_⟩
    obtain ⟨q', vs', e1', w', h2', r2'⟩ := ownL S1 hf
    rw [e1] at e1'
    cases e1'
    refine ⟨q, vs', v, rfl, rfl, h2', by rw [r2'.length]; exact hl, hn _ _ kn W σ G1 _ L1.g (S1.putOwn w' h2' (fun _ z => by cases z) (fun _ z => by cases z) ?_)⟩
    refine ⟨q, vs' ++ [v], by rw [e1]; rfl, w', upd_same, RdL.append (r2'.mono (rg_le fun z => (Bool.and_eq_true_iff.mp z).1)) (.cons ?_ .nil)⟩
    exact RdD.mono (rg_le fun z => (Bool.and_eq_true_iff.mp z).2) (show RdD P (rg r.2 G1 H0) v r.1 from r1)
  · exact e.elim
theorem xs_expr {ea : Ev DB} (ha : PE X a (tE cl ea)) (hcomp : isComp a = false) : PS X (.Expr a pos) (tS cl fun K f n => ea f n fun _ n1 => K.nx f n1) :=
  (ps_expr ha (swapsNo hcomp _ _ _)).imp fun D σ H ⟨P, G0, H0, W, n, f, G, K, hcl, S, e, hn, hr, hct⟩ => ⟨P, G0, H0, W, n, f, G, _, hcl, S, e, fun r n1 kn v G1 H1 S1 L1 r1 => hn _ _ kn W σ G1 H1 L1.g S1⟩
theorem xs_ret {ea : Ev DB} (ha : PE X a (tE cl ea)) : PS X (.Return (some a) pos) (tS cl fun K f n => ea f n K.rt) :=
  (ps_ret ha).imp fun D σ H ⟨P, G0, H0, W, n, f, G, K, hcl, S, e, hn, hr, hct⟩ => ⟨P, G0, H0, W, n, f, G, _, hcl, S, e, fun r n1 kr v G1 H1 S1 L1 r1 => hr _ _ kr v G1 H1 S1.bs r1⟩
theorem xs_retN : PS X (.Return none pos) (tS cl fun K _ n => K.rt (.non, true) n) :=
  ps_retN.imp fun D σ H ⟨P, G0, H0, W, n, f, G, K, hcl, S, e, hn, hr, hct⟩ => hr _ _ e _ G H S.bs .non
theorem xs_ife {ec : Ev Bool} {e1 e2 : DE → Fr → Nat → Prop} {s1 s2 : List Stmt} (hc : PT X a (tT cl ec)) (h1 : PSs X s1 (tS cl e1)) (h2 : PSs X s2 (tS cl e2)) :
    PS X (.If a s1 s2 pos) (tS cl fun K f n => ec f n fun t n1 => if t = true then e1 K f n1 else e2 K f n1) :=
  (ps_if hc h1 h2).imp fun D σ H ⟨P, G0, H0, W, n, f, G, K, hcl, S, e, hn, hr, hct⟩ => ⟨P, G0, H0, W, n, f, G, _, hcl, S, e, fun t n1 ht v G1 H1 S1 L1 r1 => by
    cases (show v = t from r1)
    have hr' : ∀ r n', K.rt r n' → ∀ v G' H', Bs P G0 H0 n' G' H' → RdD P (rg r.2 G' H0) v r.1 → D.rt v H' := hr
    cases t with
    | true => exact iteT ⟨P, G0, H0, W, n1, f, G1, K, hcl, S1, by simpa using ht, fun f' n' h W' σ' G' H' g => hn f' n' h W' σ' G' H' (fun a o z => g a o (L1.g a o z)), hr, fun f' n' h W' σ' G' H' g => hct f' n' h W' σ' G' H' (fun a o z => g a o (L1.g a o z))⟩
    | false => exact iteF ⟨P, G0, H0, W, n1, f, G1, K, hcl, S1, by simpa using ht, fun f' n' h W' σ' G' H' g => hn f' n' h W' σ' G' H' (fun a o z => g a o (L1.g a o z)), hr, fun f' n' h W' σ' G' H' g => hct f' n' h W' σ' G' H' (fun a o z => g a o (L1.g a o z))⟩⟩
theorem xss_nil : PSs X [] (tS cl fun K f n => K.nx f n) := pss_nil.imp fun D σ H ⟨P, G0, H0, W, n, f, G, K, hcl, S, e, hn, hr, hct⟩ => hn _ _ e W σ G H Sub.rfl' S
theorem xss_cons {e1 e2 : DE → Fr → Nat → Prop} {s : Stmt} {ss : List Stmt} (h1 : PS X s (tS cl e1)) (h2 : PSs X ss (tS cl e2)) : PSs X (s :: ss) (tS cl fun K f n => e1 ⟨fun f n => e2 K f n, K.rt, K.ct⟩ f n) :=
  (pss_cons h1 h2).imp fun D σ H ⟨P, G0, H0, W, n, f, G, K, hcl, S, e, hn, hr, hct⟩ => ⟨P, G0, H0, W, n, f, G, _, hcl, S, e, fun f' n' he W' σ' G' H' g S' => ⟨P, G0, H0, W', n', f', G', K, hcl, S', he, fun f' n' h W' σ' G2 H' g2 => hn f' n' h W' σ' G2 H' (fun a o z => g2 a o (g a o z)), hr, fun f' n' h W' σ' G2 H' g2 => hct f' n' h W' σ' G2 H' (fun a o z => g2 a o (g a o z))⟩, hr, hct⟩
theorem xss_nev {ss : List Stmt} : PSs X ss (tS cl fun _ _ _ => False) := pss_never.imp fun D σ H ⟨P, G0, H0, W, n, f, G, K, hcl, S, e, hn, hr, hct⟩ => e
theorem xs_whl {ec : Ev Bool} {e1 : DE → Fr → Nat → Prop} {s1 : List Stmt} (hp : PassesOwn (model X.prog X.w) X.A X.env X.xe) (hc : PT X a (tT cl ec)) (h1 : PSs X s1 (tS cl e1)) :
    PS X (.While a s1 [] pos) (tS cl fun K f n => ∃ m, whGo (fun f n k => ec f n k) (fun K f n => e1 K f n) m K f n) := by
  refine (ps_while hp hc h1).imp fun D σ H ⟨P, G0, H0, W, n, f, G, K, hcl, S, ⟨m, e⟩, hn, hr, hct⟩ => ?_
  refine ⟨fun m σ H => ∃ (W : Nat → Addr → Prop) (n : Nat) (f : Fr) (G' : Hp), SR P G0 H0 W n σ f G' H ∧ Sub G G' ∧ whGo (fun f n k => ec f n k) (fun K f n => e1 K f n) m K f n, ⟨m, W, n, f, G, S, Sub.rfl', e⟩, ?_⟩
  rintro m σ H ⟨W, n, f, G', S, sub, e⟩
  cases m with
  | zero => exact (show False from e).elim
  | succ m =>
    refine ⟨P, G0, H0, W, n, f, G', _, hcl, S, e, fun t n1 ht v G1 H1 S1 L1 r1 => ?_⟩
    cases (show v = t from r1)
    have sub1 : Sub G G1 := fun a o z => L1.g a o (sub a o z)
    cases t with
    | false => exact iteF (hn _ _ (by simpa using ht) W σ G1 H1 sub1 S1)
    | true =>
      refine iteT ⟨fun σ' H' => ∃ (W : Nat → Addr → Prop) (n : Nat) (f : Fr) (G' : Hp), SR P G0 H0 W n σ' f G' H' ∧ Sub G G' ∧ whGo (fun f n k => ec f n k) (fun K f n => e1 K f n) m K f n, fun σ' H' h => ⟨m, Nat.lt_succ_self m, h⟩, ?_⟩
      exact ⟨P, G0, H0, W, n1, f, G1, ⟨fun f n => whGo (fun f n k => ec f n k) (fun K f n => e1 K f n) m K f n, K.rt, fun f n => whGo (fun f n k => ec f n k) (fun K f n => e1 K f n) m K f n⟩, hcl, S1, (by simpa using ht), fun f' n' he W' σ' G' H' g S' => ⟨W', n', f', G', S', fun a o z => g a o (sub1 a o z), he⟩, hr, fun f' n' he W' σ' G' H' g S' => ⟨W', n', f', G', S', fun a o z => g a o (sub1 a o z), he⟩⟩
theorem xs_for {ei : EvI} {e1 : DE → Fr → Nat → Prop} {s1 : List Stmt} {ts : List Nat} {tg it : Expr} {sc : Scope} (so : StoreOk X N sc) (hcm : X.calm = true) (hp : PassesOwn (model X.prog X.w) X.A X.env X.xe) (htg : chkTg N sc ts tg = true) (hi : PI X tg it (tI cl ei true)) (h1 : PSs X s1 (tS cl e1)) (hset : ∀ x, foldedSetIterable it X.env x = pure x) :
    PS X (.For tg it s1 [] pos) (tS cl fun K f n => ei f n fun items n1 => forGo (fun vs f n K => ∃ f', bindT f ts vs = some f' ∧ e1 K f' n) items K f n1) := by
  refine (ps_for hp hcm hi (pg_of so hcm htg) h1 hset).imp fun D σ H ⟨P, G0, H0, W, n, f, G, K, hcl, S, e, hn, hr, hct⟩ => ?_
  refine ⟨P, G0, H0, W, n, f, G, _, hcl, S, e, fun items n1 hit J G1 H1 S1 L1 hJ => ?_⟩
  obtain ⟨St, vss, _, stf, hvl, hvr, hgo, hstop, hyld⟩ := hJ
  refine ⟨fun i m σ H' => m = items.length - i ∧ i ≤ items.length ∧ ∃ (W : Nat → Addr → Prop) (n' : Nat) (f : Fr) (G' : Hp), SR P G0 H0 W n' σ f G' H' ∧ Sub G1 G' ∧ forGo (fun vs f n K => ∃ f', bindT f ts vs = some f' ∧ e1 K f' n) (items.drop i) K f n', ⟨items.length, by simp, Nat.zero_le _, W, n1, f, G1, S1, Sub.rfl', hit⟩, ?_⟩
  rintro i m σ H' ⟨rfl, hi, W', n', f', G', S', sub, run⟩
  have stH : St H' := stf rfl H' fun a o z => S'.bs.gh a o (sub a o z)
  by_cases hlt : i < items.length
  · refine .inr ⟨hgo i H' stH hlt, fun σ' H'' => ∃ (W : Nat → Addr → Prop) (n' : Nat) (f : Fr) (G' : Hp), SR P G0 H0 W n' σ' f G' H'' ∧ Sub G1 G' ∧ forGo (fun vs f n K => ∃ f', bindT f ts vs = some f' ∧ e1 K f' n) (items.drop (i + 1)) K f n', fun σ' H'' h => ⟨items.length - (i + 1), by omega, rfl, hlt, h⟩, fun x H3 hy => ?_⟩
    rw [List.drop_eq_getElem_cons hlt] at run
    obtain ⟨f2, hb, run⟩ := run
    refine bind_ok (N := N) (sc := sc) S' htg stH (fun j vs its q1 q2 => (hvr j vs its q1 q2).mono sub) hyld (List.getElem?_eq_getElem hlt) hy hb fun σ2 H2 S2 L2 _ => ?_
    exact ⟨P, G0, H0, W', n', f2, G', _, hcl, S2, run, fun f' n' he W' σ' G2 H' g S' => ⟨W', n', f', G2, S', fun a o z => g a o (sub a o z), he⟩, hr, fun f' n' he W' σ' G2 H' g S' => ⟨W', n', f', G2, S', fun a o z => g a o (sub a o z), he⟩⟩
  · have ei : i = items.length := by omega
    subst ei
    refine .inl ⟨hstop H' stH, ?_⟩
    rw [List.drop_length] at run
    exact hn _ _ run W' σ G' H' (fun a o z => sub a o (L1.g a o z)) S'
/-- an own list of a name's is frozen from here on -/
theorem SR.frzO {P : Pt} {G0 H0 G H : Hp} {W : Nat → Addr → Prop} {n : Nat} {σ : L2.St} {f : Fr} (S : SR P G0 H0 W n σ f G H) {i : Nat} {q : Addr} {o : HO} {d : D} {b : Bool} (w : W i q) (hq : H q = some o) (hs : (σ[i]?).join = some (.ref q)) (r : RdD P (rg b (L2.upd G q o) H0) (.ref q) d) :
    SR P G0 H0 (fun k a => k ≠ i ∧ W k a) n σ (f.set i (.v d b)) (L2.upd G q o) H ∧ Sub G (L2.upd G q o) := by
  have g := S.wk.g i q w
  have h0 := S.wk.h0 i q w
  have ss := S.wk.s i q w
  have sub : Sub G (L2.upd G q o) := fun a u e => by
    have : a ≠ q := fun z => by rw [z, g] at e; cases e
    rw [upd_ne this]; exact e
  refine ⟨⟨⟨fun a u e => ?_, fun a u e => sub _ _ (S.bs.g0 a u e), fun a z => ?_, S.bs.h0, S.bs.st, by rw [upd_ne (Ne.symm ss.1)]; exact S.bs.gs, by rw [upd_ne (Ne.symm ss.2)]; exact S.bs.gl⟩,
    ⟨fun j k a x y => S.wk.inj j k a x.2 y.2, fun k a x => S.wk.h k a x.2, fun k a x => ?_, fun k a x => S.wk.h0 k a x.2, fun k a x => S.wk.s k a x.2, fun k a x => S.wk.nt k a x.2⟩, by rw [List.length_set]; exact S.len, fun j t e => ?_⟩, sub⟩
  · by_cases y : a = q
    · rw [y, upd_same] at e; rw [y, hq]; exact e
    · rw [upd_ne y] at e; exact S.bs.gh a u e
  · have : a ≠ q := fun y => z (by rw [y]; exact h0)
    rw [upd_ne this]; exact S.bs.gx a z
  · have : a ≠ q := fun y => x.1 (S.wk.inj k i q (y ▸ x.2) w)
    rw [upd_ne this]; exact S.wk.g k a x.2
  · by_cases hij : i = j
    · subst hij
      have hi : i < f.length := by
        rcases Nat.lt_or_ge i f.length with z | z
        · exact z
        · rw [List.getElem?_eq_none (by rw [List.length_set]; exact z)] at e; cases e
      rw [List.getElem?_set_self hi] at e
      cases e
      exact ⟨_, hs, r⟩
    · rw [List.getElem?_set_ne hij] at e
      have r' := S.sl j t e
      cases t with
      | no => trivial
      | v d b => obtain ⟨v, e1, r1⟩ := r'; exact ⟨v, e1, r1.mono (rg_mono sub)⟩
      | l xs b => obtain ⟨p, vs, e1, w1, h1, r1⟩ := r'; exact ⟨p, vs, e1, ⟨Ne.symm hij, w1⟩, h1, r1.mono (rg_mono sub)⟩
      | k ks xs b => obtain ⟨p, vs, e1, w1, h1, l1, r1⟩ := r'; exact ⟨p, vs, e1, ⟨Ne.symm hij, w1⟩, h1, l1, r1.mono (rg_mono sub)⟩
      | kt ks xs b => obtain ⟨p, vs, e1, w1, h1, l1, r1⟩ := r'; exact ⟨p, vs, e1, ⟨Ne.symm hij, w1⟩, h1, l1, r1.mono (rg_mono sub)⟩
      | o c ns xs b => obtain ⟨p, C, dx, cs, vs, e1, w1, hc, h1, l1, r1⟩ := r'; exact ⟨p, C, dx, cs, vs, e1, ⟨Ne.symm hij, w1⟩, hc, h1, l1, r1.mono (rg_mono sub)⟩
      | scr => exact r'
      | sep d =>
        obtain ⟨v, Sg, e1, r1, h1, m⟩ := r'
        exact ⟨v, Sg, e1, r1, h1, fun a u z => (m a u z).imp id fun w1 => ⟨Ne.symm hij, w1⟩⟩
theorem SR.frz {P : Pt} {G0 H0 G H : Hp} {W : Nat → Addr → Prop} {n : Nat} {σ : L2.St} {f : Fr} (S : SR P G0 H0 W n σ f G H) {i : Nat} {s0 s1 : Sl} (hf : f[i]? = some s0) (hz : frzS s0 = some s1) :
    ∃ W' G', SR P G0 H0 W' n σ (f.set i s1) G' H ∧ Sub G G' := by
  have r := S.sl i s0 hf
  cases s0 with
  | l xs b =>
    cases hz
    obtain ⟨q, vs, e1, w, h1, r1⟩ := r
    have sub : Sub G (L2.upd G q (.lst vs)) := fun a u e => by
      have : a ≠ q := fun z => by rw [z, S.wk.g i q w] at e; cases e
      rw [upd_ne this]; exact e
    exact ⟨_, _, S.frzO w h1 e1 (.lst (rg_at upd_same (S.wk.h0 i q w)) (r1.mono (rg_mono sub)))⟩
  | k ks xs b =>
    cases hz
    obtain ⟨q, vs, e1, w, h1, l1, r1⟩ := r
    have sub : Sub G (L2.upd G q (.dK (ks.zip vs))) := fun a u e => by
      have : a ≠ q := fun z => by rw [z, S.wk.g i q w] at e; cases e
      rw [upd_ne this]; exact e
    exact ⟨_, _, S.frzO w h1 e1 (.dic (rg_at upd_same (S.wk.h0 i q w)) l1 (r1.mono (rg_mono sub)))⟩
  | kt ks xs b =>
    cases hz
    obtain ⟨q, vs, e1, w, h1, l1, r1⟩ := r
    have sub : Sub G (L2.upd G q (.dT (ks.zip vs))) := fun a u e => by
      have : a ≠ q := fun z => by rw [z, S.wk.g i q w] at e; cases e
      rw [upd_ne this]; exact e
    exact ⟨_, _, S.frzO w h1 e1 (.dit (rg_at upd_same (S.wk.h0 i q w)) l1 (r1.mono (rg_mono sub)))⟩
  | _ => cases hz
theorem xs_frz {e1 : DE → Fr → Nat → Prop} {i : Nat} {s : Stmt} (h : PS X s (tS cl e1)) : PS X s (tS cl fun K f n => match f[i]? with
    | some s0 => ∃ s1, frzS s0 = some s1 ∧ e1 K (f.set i s1) n
    | none => False) :=
  h.imp fun D σ H ⟨P, G0, H0, W, n, f, G, K, hcl, S, e, hn, hr, hct⟩ => by
    dsimp only at e
    split at e
    · rename_i s0 hf
      obtain ⟨s1, hz, e⟩ := e
      obtain ⟨W', G', S', sub⟩ := S.frz hf hz
      exact ⟨P, G0, H0, W', n, _, G', K, hcl, S', e, fun f' n' h W' σ' G2 H' g => hn f' n' h W' σ' G2 H' (fun a o z => g a o (sub a o z)), hr, fun f' n' h W' σ' G2 H' g => hct f' n' h W' σ' G2 H' (fun a o z => g a o (sub a o z))⟩
    · exact e.elim
/-- a value that is new and a name's alone -/
theorem xs_asgS {ea : Ev DB} {i : Nat} {sc : Scope} {px : Pos} (so : StoreOk X N sc) (hl : locN N sc i x = true) (h : PE X ex (tE cl ea)) (hs : swapsWith ex (some (.Name x px)) pos.line X.env = pure false) :
    PS X (.Assign [.Name x px] ex pos) (tS cl fun K f n => ea (view f) n fun x n1 => x.2 = true ∧ K.nx (f.set i (.sep x.1)) n1) := by
  obtain ⟨h1, h2⟩ := locN_of hl
  obtain ⟨e, nd, hso⟩ := so
  obtain ⟨a1, a2⟩ := hso x h2
  refine (ps_set (by rw [e]; exact nd) (by rw [e]; exact h1) a1 h hs a2).imp fun D σ H ⟨P, G0, H0, W, n, f, G, K, hc, S, ev, hn, hr, hct⟩ => ?_
  refine ⟨P, allG P H, H, fun _ _ => False, n, view f, allG P H, _, hc, viewR S, ev, fun r n1 ⟨hb, kn⟩ v G1 H1 S1 L1 r1 => ?_⟩
  have L2 : Le P G H G H1 := ⟨Sub.rfl', fun _ _ => .inl rfl, L1.h⟩
  have gh : Sub G H1 := fun a o q => L1.h a o (S.bs.gh a o q) (S.gne q).1 (S.gne q).2
  have S2 := S.le L2 gh S1.bs.st
  have r1' : RdD P (rg r.2 G1 H) v r.1 := r1
  rw [hb] at r1'
  have new : ∀ a o, rg true G1 H a = some o → H a = none := fun a o z => by
    cases q : H a with
    | none => rfl
    | some u =>
      have z' : (match H a with | none => G1 a | some _ => none) = some o := z
      rw [q] at z'; cases z'
  exact hn _ _ kn _ _ G H1 Sub.rfl' (S2.setSep (Hn := H) (fun a o z => S1.bs.gh a o (rg_sub a o z)) new (fun k a w => S.wk.h k a w) (fun a o z => by
    have hq := new a o z
    refine ⟨?_, S.bs.h0n hq, S.bs.sne hq⟩
    cases g : G a with
    | none => rfl
    | some u => rw [S.bs.gh a u g] at hq; cases hq) r1')
/-- .. is spoilt -/
theorem xs_spoil {CX : CXT} {E : XK} {k : Nat} {fa : Addr} {fd : FuncData} {i : Nat} {p1 p2 p3 : Pos} (F : FnOk X.prog X.w X.K X.mg X.base CX k fa fd ["thing"] (spSpoil 10)) (hr : Room k X.A) (hg : Gl X "_law_spoilt") (hm : X.mg "_law_spoilt" = some (.ref fa)) (hk : PySem.W.keepIn X.K (.ref fa) = true) (hb : Binds X.K fd ["thing"] []) (hx : Passes CX X E)
    (hN : X.N[i]? = some x) (hv : Vis X.env.scope x) (hd : (x == ("__debug__" : Str)) = false) (hcd : (x == ("__classdict__" : Str)) = false) :
    PS X (.Expr (.Call (.Name "_law_spoilt" p1) [.Name x p2] [] p3) pos) (tS cl fun K f n => match f[i]? with
      | some (.sep d) => d.spo = true ∧ K.nx (f.set i .no) n
      | _ => False) := by
  refine (ps_expr (pe_call F hr hg hm hk hb .nil hx (pa_cons (pe_var hN hv hd hcd) pa_nil)) rfl).imp fun D σ H ⟨P, G0, H0, W, n, f, G, K, hc, S, e, hn, hr, hct⟩ => ?_
  dsimp only at e
  split at e
  · rename_i d hf
    obtain ⟨hs, kn⟩ := e
    unfold DL.D.spo at hs
    obtain ⟨hs, h3⟩ := Bool.and_eq_true_iff.mp hs
    obtain ⟨h1, h2⟩ := Bool.and_eq_true_iff.mp hs
    obtain ⟨v, Sg, e1, r1, g1, m1⟩ := S.sl i _ hf
    refine ⟨v, slot_at e1, P, cut P Sg d.subs, d, v, d.nod, rfl, r1.cuts h1 fun _ h => h, h1, of_decide_eq_true h2, Nat.le_refl _, cut_spd g1 h1 (of_decide_eq_true h3), fun H' _ pr => ?_⟩
    refine hn _ _ kn _ σ G H' Sub.rfl' (S.spoil fun a o ho hw => pr a o ho fun ⟨d', _, _, _, vs, hvs⟩ => ?_)
    have h4 := cut_sub _ _ hvs
    have h5 := g1 a _ h4
    rw [ho] at h5
    cases h5
    rcases m1 a _ h4 with ⟨xs, z⟩ | w
    · cases z
    · obtain ⟨xs, z⟩ := hw w
      cases z
  · exact e.elim
end
end DL

set_option maxHeartbeats 4000000
/-! DL13: walks of values, calls with keywords. -/
namespace DL
open PySem PySem.Spec PyProof.Rows L2

section
variable {X : Cx} {cl : Cls0} {a b c ex : Expr} {pos p : Pos}
theorem xi_zipE {tgs : List Expr} {kk : Nat} {tpos : Pos} {ea eb : Ev DB} (hg : Gl X "zip") (hm : X.mg "zip" = none) {fz : Bool} (ha : PE X a (tE cl ea)) (hb : PE X b (tE cl eb)) (pa : plainX a = true) (pb : plainX b = true) :
    PI X (.Tuple tgs kk tpos) (.Call (.Name "zip" p) [a, b] [] pos) (tI cl (fun f n k => ea f n fun x n1 => eb f n1 fun y n2 => match x, y with
      | (.lst xs, b), (.lst ys, c) => k (List.zipWith (fun d e => [(d, fl b d), (e, fl c e)]) xs ys) n2
      | (.tup xs, b), (.tup ys, c) => k (List.zipWith (fun d e => [(d, fl b d), (e, fl c e)]) xs ys) n2
      | _, _ => False) fz) := by
  refine (RZ.pi_zipA hg hm (pa_cons ha (pa_cons hb pa_nil (star_cons pb [] X.env)) (star_cons pa [b] X.env)) (star_cons pa [b] X.env) (star_plain (es := [b]) (by rw [List.all_cons, pb]; rfl) pos X.env)).imp fun σ H R ⟨P, G0, H0, W, n, f, G, K, hc, S, e, h⟩ => TR.two kE kE hc S e fun x y n2 hk v u G2 H2 S2 L2 r1 r2 => ?_
  obtain ⟨x, bx⟩ := x
  obtain ⟨y, by'⟩ := y
  cases x <;> cases y <;> first
    | exact (show False from hk).elim
    | (rename_i xs ys
       have r1' : RdD P (rg bx G2 H0) v (.lst xs) := r1
       have r2' : RdD P (rg by' G2 H0) u (.lst ys) := r2
       cases r1' with
       | lst h1 r5 =>
         cases r2' with
         | lst h2 r6 =>
           have e1 := rg_sub _ _ h1
           have e2 := rg_sub _ _ h2
           refine ⟨_, _, _, _, rfl, .inl ⟨SqL.of (S2.bs.gh _ _ e1), SqL.of (S2.bs.gh _ _ e2), h _ _ hk _ G2 H2 S2 L2 (zipItR (S2.bs.gh _ _ e1) (S2.gne e1).1 (S2.gne e1).2 (S2.bs.gh _ _ e2) (S2.gne e2).1 (S2.gne e2).2 (fun _ => e1) (fun _ => e2) r5 r6 ?_ ?_ ?_)⟩⟩
           · exact fun i H2 x y e1 e2 q1 q2 => ⟨_, _, x, y, SqL.of e1, SqL.of e2, q1, q2⟩
           · exact fun i H2 e1 e2 q => ⟨_, _, SqL.of e1, SqL.of e2, q⟩
           · exact fun i H2 v H3 e1 e2 ⟨T, x, y, z1, z2, z3, z4, z5⟩ => ⟨T, x, y, z1, z2, z3, z4 _ (SqL.of e1), z5 _ (SqL.of e2)⟩)
    | (rename_i xs ys
       have r1' : RdD P (rg bx G2 H0) v (.tup xs) := r1
       have r2' : RdD P (rg by' G2 H0) u (.tup ys) := r2
       cases r1' with
       | tup h1 r5 =>
         cases r2' with
         | tup h2 r6 =>
           have e1 := rg_sub _ _ h1
           have e2 := rg_sub _ _ h2
           refine ⟨_, _, _, _, rfl, .inr ⟨SqT.of (S2.bs.gh _ _ e1), SqT.of (S2.bs.gh _ _ e2), h _ _ hk _ G2 H2 S2 L2 (zipItR (S2.bs.gh _ _ e1) (S2.gne e1).1 (S2.gne e1).2 (S2.bs.gh _ _ e2) (S2.gne e2).1 (S2.gne e2).2 (fun _ => e1) (fun _ => e2) r5 r6 ?_ ?_ ?_)⟩⟩
           · exact fun i H2 x y e1 e2 q1 q2 => ⟨_, _, x, y, SqT.of e1, SqT.of e2, q1, q2⟩
           · exact fun i H2 e1 e2 q => ⟨_, _, SqT.of e1, SqT.of e2, q⟩
           · exact fun i H2 v H3 e1 e2 ⟨T, x, y, z1, z2, z3, z4, z5⟩ => ⟨T, x, y, z1, z2, z3, z4 _ (SqT.of e1), z5 _ (SqT.of e2)⟩)
theorem xi_enumE {tgs : List Expr} {kk : Nat} {tpos : Pos} {ea : Ev DB} (hg : Gl X "enumerate") (hm : X.mg "enumerate" = none) {fz : Bool} (ha : PE X a (tE cl ea)) (pa : plainX a = true) :
    PI X (.Tuple tgs kk tpos) (.Call (.Name "enumerate" p) [a] [] pos) (tI cl (fun f n k => ea f n fun x n1 => match x with
      | (.lst xs, b) => k ((List.range xs.length).zipWith (fun i d => [(.int (i : Nat), true), (d, fl b d)]) xs) n1
      | (.tup xs, b) => k ((List.range xs.length).zipWith (fun i d => [(.int (i : Nat), true), (d, fl b d)]) xs) n1
      | _ => False) fz) := by
  refine (pi_enumA hg hm (pa_cons ha pa_nil (star_cons pa [] X.env)) (star_cons pa [] X.env)).imp fun σ H R ⟨P, G0, H0, W, n, f, G, K, hc, S, e, h⟩ => TR.one hc S e fun x n1 hx v G1 H1 S1 L1 r1 => ?_
  obtain ⟨x, bx⟩ := x
  cases x with
  | lst xs =>
    have r1' : RdD P (rg bx G1 H0) v (.lst xs) := r1
    cases r1' with
    | lst h2 r2 =>
      have hg2 := rg_sub _ _ h2
      refine ⟨_, rfl, .inl ⟨⟨_, SqL.of (S1.bs.gh _ _ hg2)⟩, h _ _ hx _ G1 H1 S1 L1 (itR_enum (S1.bs.gh _ _ hg2) (S1.gne hg2).1 (S1.gne hg2).2 (fun _ => hg2) r2 (fun i H2 st hi => ⟨_, _, SqL.of st, List.getElem?_eq_getElem hi⟩) (fun i H2 st hi => ⟨_, SqL.of st, hi⟩) fun i H2 v H3 st hy => ?_)⟩⟩
      obtain ⟨T, x, e1, e2, e3, e4⟩ := hy
      exact ⟨T, x, e1, e2, e3, fun _ => e4 _ (SqL.of st)⟩
  | tup xs =>
    have r1' : RdD P (rg bx G1 H0) v (.tup xs) := r1
    cases r1' with
    | tup h2 r2 =>
      have hg2 := rg_sub _ _ h2
      refine ⟨_, rfl, .inr ⟨⟨_, SqT.of (S1.bs.gh _ _ hg2)⟩, h _ _ hx _ G1 H1 S1 L1 (itR_enum (S1.bs.gh _ _ hg2) (S1.gne hg2).1 (S1.gne hg2).2 (fun _ => hg2) r2 (fun i H2 st hi => ⟨_, _, SqT.of st, List.getElem?_eq_getElem hi⟩) (fun i H2 st hi => ⟨_, SqT.of st, hi⟩) fun i H2 v H3 st hy => ?_)⟩⟩
      obtain ⟨T, x, e1, e2, e3, e4⟩ := hy
      exact ⟨T, x, e1, e2, e3, fun _ => e4 _ (SqT.of st)⟩
  | _ => exact (show False from hx).elim
/-! ### keywords -/
abbrev tK (cl : Cls0) (e : EvL) : TA := tA cl e
theorem _root_.L2.PK.imp {X : Cx} {e : List Keyword} {t t' : TA} (h : PK X e t) (i : ∀ σ H Q, t' σ H Q → t σ H Q) : PK X e t' := ⟨fun pos pins s σ H Q I w => h.run pos pins s σ H Q I (i σ H Q w)⟩
theorem xk_nil : PK X [] (tA cl fun _ n k => k [] true n) :=
  pk_nil.imp fun σ H Q ⟨P, G0, H0, W, n, f, G, K, hc, S, e, h⟩ => h _ _ e [] G H S Le.rfl' .nil
theorem xk_cons {ea : Ev DB} {es : EvL} {nm : Option Str} {kp : Pos} {xs : List Keyword} (ha : PE X a (tE cl ea)) (hr : PK X xs (tA cl es)) :
    PK X (⟨nm, a, kp⟩ :: xs) (tA cl fun f n k => ea f n fun x n1 => es f n1 fun ys b n2 => k (x.1 :: ys) (x.2 && b) n2) :=
  (pk_cons ha hr).imp fun σ H Q ⟨P, G0, H0, W, n, f, G, K, hc, S, e, h⟩ =>
    TR.two (K := fun x y n2 => K (x.1 :: y.1, x.2 && y.2) n2) kE kA hc S e fun x y n2 hk v u G2 H2 S2 L2 r1 r2 =>
      h _ _ hk (v :: u) G2 H2 S2 L2 (RdL.cons (RdD.mono (rg_le fun z => (Bool.and_eq_true_iff.mp z).1) (show RdD P (rg x.2 G2 H0) v x.1 from r1)) (RdL.mono (rg_le fun z => (Bool.and_eq_true_iff.mp z).2) (show RdL P (rg y.2 G2 H0) u y.1 from r2)))
theorem kw_facts {pos : Pos} {env : Env} : ∀ {kws : List Keyword} {ks : List Str}, kwNames kws = some ks → (backToKw pos (keywordEach kws env)).all (·.1.isSome) = true ∧ (backToKw pos (keywordEach kws env)).filterMap (·.1) = ks ∧ (backToKw pos (keywordEach kws env)).any (·.1.isNone) = false
  | [], ks, h => by cases h; exact ⟨rfl, rfl, rfl⟩
  | ⟨none, v, q⟩ :: r, ks, h => by cases h
  | ⟨some x, v, q⟩ :: r, ks, h => by
    have h' : (kwNames r).map (x :: ·) = some ks := h
    obtain ⟨ks', e1, e2⟩ := Option.map_eq_some_iff.mp h'
    subst e2
    obtain ⟨a, b, c⟩ := kw_facts (pos := pos) (env := env) e1
    refine ⟨?_, ?_, ?_⟩
    · show (true && (backToKw pos (keywordEach r env)).all (·.1.isSome)) = true
      rw [a]; rfl
    · show x :: (backToKw pos (keywordEach r env)).filterMap (·.1) = _
      rw [b]
    · show (false || (backToKw pos (keywordEach r env)).any (·.1.isNone)) = false
      rw [c]; rfl
/-- the arguments in the parameters' order -/
def gK {α : Type} (n m : Nat) (ord : List Nat) (us ws : List α) : List α := if us.length = n ∧ ws.length = m then (pick (us ++ ws) ord).getD [] else []
theorem RdL.pick {P : Pt} {G : Hp} {vs : List V} {ds : List D} (r : RdL P G vs ds) : ∀ {ord : List Nat} {zs : List D}, pick ds ord = some zs → ∃ us, DL.pick vs ord = some us ∧ RdL P G us zs
  | [], zs, h => by cases h; exact ⟨[], rfl, .nil⟩
  | i :: is, zs, h => by
    unfold DL.pick at h
    split at h
    · rename_i x xr e1 e2
      cases h
      obtain ⟨v, e3, r3⟩ := r.get e1
      obtain ⟨us, e4, r4⟩ := RdL.pick r e2
      exact ⟨v :: us, by unfold DL.pick; rw [e3, e4], .cons r3 r4⟩
    · cases h
theorem vals_pick {vs : List V} {us : List Value} (r : Vals vs us) : ∀ (ord : List Nat), (DL.pick vs ord = none ∧ DL.pick us ord = none) ∨ ∃ a b, DL.pick vs ord = some a ∧ DL.pick us ord = some b ∧ Vals a b
  | [] => .inr ⟨[], [], rfl, rfl, .nil⟩
  | i :: is => by
    have one : ∀ {vs : List V} {us : List Value} (i : Nat), Vals vs us → (vs[i]? = none ∧ us[i]? = none) ∨ ∃ v u, vs[i]? = some v ∧ us[i]? = some u ∧ RelV v u := by
      intro vs us i r
      induction r generalizing i with
      | nil => exact .inl ⟨by simp, by simp⟩
      | cons h _ ih => cases i with
        | zero => exact .inr ⟨_, _, rfl, rfl, h⟩
        | succ i => exact ih i
    unfold DL.pick
    rcases one i r with ⟨e1, e2⟩ | ⟨v, u, e1, e2, e3⟩
    · rw [e1, e2]; exact .inl ⟨rfl, rfl⟩
    · rcases vals_pick r is with ⟨e4, e5⟩ | ⟨x, y, e4, e5, e6⟩
      · rw [e1, e2, e4, e5]; exact .inl ⟨rfl, rfl⟩
      · rw [e1, e2, e4, e5]; exact .inr ⟨_, _, rfl, rfl, .cons e3 e6⟩
theorem gK_rel (n m : Nat) (ord : List Nat) {vs : List V} {us : List Value} {zs : List V} {ws : List Value} (r : Vals vs us) (r2 : Vals zs ws) : Vals (gK n m ord vs zs) (gK n m ord us ws) := by
  unfold gK
  rw [← r.length, ← r2.length]
  split
  · rcases vals_pick (r.append r2) ord with ⟨e1, e2⟩ | ⟨x, y, e1, e2, e3⟩
    · rw [e1, e2]; exact .nil
    · rw [e1, e2]; exact e3
  · exact .nil
variable {k : Nat} {fa : Addr} {fd : FuncData} {ps ks : List Str} {x : Str} {ev : List D → Nat → KE → Prop} {m : Nat} {ord : List Nat} {kws : List Keyword}
theorem gK_of {P : Pt} {G : Hp} {vs us : List V} {xs ys zs : List D} (r : RdL P G vs xs) (r2 : RdL P G us ys) (h1 : xs.length = m) (h2 : ys.length = k) (h : pick (xs ++ ys) ord = some zs) : RdL P G (gK m k ord vs us) zs := by
  obtain ⟨w, e, rw'⟩ := (r.append r2).pick h
  unfold gK
  rw [if_pos ⟨r.length.trans h1, r2.length.trans h2⟩, e]
  exact rw'
theorem xe_kcall {CX : CXT} {E : XK} {es ek : EvL} {xs : List Expr} (F : FnG X.prog X.w X.K X.mg X.base CX k fa ps fd (spF cl ev ps.length)) (gd : X.A.guards = some []) (hr : Room k X.A) (hg : Gl X x) (hm : X.mg x = some (.ref fa)) (hk : PySem.W.keepIn X.K (.ref fa) = true) (hb : KBinds X.K fd ps ks (gK m ks.length ord) (gK m ks.length ord)) (hx : Passes CX X E)
    (ha : PA X (a :: xs) (tA cl es)) (hkw : PK X kws (tA cl ek)) (hn : kwNames kws = some ks) (hp : (a :: xs).all plainX = true) (hdb : (x == ("__debug__" : Str)) = false) (np : ∀ ds n k, ev ds n k → ds.length = ps.length) :
    PE X (.Call (.Name x p) (a :: xs) kws pos) (tE cl fun f n k => es f n fun xs _ n1 => ek f n1 fun ys _ n2 => ∃ zs, xs.length = m ∧ ys.length = ks.length ∧ pick (xs ++ ys) ord = some zs ∧ ev zs n2 k) := by
  have hp' : plainX a = true ∧ xs.all plainX = true := by rw [List.all_cons, Bool.and_eq_true] at hp; exact hp
  obtain ⟨k1, k2, k3⟩ := kw_facts (pos := pos) (env := X.env) hn
  refine (pe_callKG F gd hr hg hm hk hb hx ha hkw k1 k2 hdb (star_cons hp'.1 xs X.env) (by rw [star_plain hp pos X.env, k3]; rfl)).imp fun σ H Q ⟨P, G0, H0, W, n, f, G, K, hc, S, e, h⟩ =>
    TR.two (rel1 := relA) (rel2 := relA) (ev := ev2 es) (ew := ev2 ek) (K := fun (x y : List D × Bool) n2 => ∃ zs, x.1.length = m ∧ y.1.length = ks.length ∧ pick (x.1 ++ y.1) ord = some zs ∧ ev zs n2 K) kA kA hc S e fun x y n2 hk v u G2 H2 S2 L2 r1 r2 => ?_
  obtain ⟨zs, h1, h2, h3, h4⟩ := hk
  have r := gK_of (RdL.mono rg_sub r1) (RdL.mono rg_sub r2) h1 h2 h3
  exact spF_of (b := false) hc S2 r (np _ _ _ h4) h4 fun r n' hr v G' H' S' L' q => h r n' hr v G' H' S' (Le.trans S.bs S2.bs.st L2 L') q
theorem xe_kcall0 {CX : CXT} {E : XK} {ek : EvL} (F : FnG X.prog X.w X.K X.mg X.base CX k fa ps fd (spF cl ev ps.length)) (gd : X.A.guards = some []) (hr : Room k X.A) (hg : Gl X x) (hm : X.mg x = some (.ref fa)) (hk : PySem.W.keepIn X.K (.ref fa) = true) (hb : KBinds X.K fd ps ks (gK 0 ks.length ord) (gK 0 ks.length ord)) (hx : Passes CX X E)
    (hkw : PK X kws (tA cl ek)) (hn : kwNames kws = some ks) (hdb : (x == ("__debug__" : Str)) = false) (np : ∀ ds n k, ev ds n k → ds.length = ps.length) :
    PE X (.Call (.Name x p) [] kws pos) (tE cl fun f n k => ek f n fun ys _ n2 => ∃ zs, ([] : List D).length = 0 ∧ ys.length = ks.length ∧ pick ([] ++ ys) ord = some zs ∧ ev zs n2 k) := by
  obtain ⟨k1, k2, k3⟩ := kw_facts (pos := pos) (env := X.env) hn
  have hq : PE X (.Call (.Name x p) [] kws pos) (tCallK (spF cl ev ps.length) (gK 0 ks.length ord) E tNil (tA cl ek)) := by
    refine ⟨fun pins s σ H Q I h => ?_⟩
    refine wpAny_Call_Name_kw (ld_glob I hg hm ?_ hdb)
    refine PySem.W.callWith_KW0 (h₀ := X.base) I.ok.mod.kin hk k1 ?_ (by rw [k3]; rfl)
    refine thn (hkw.run pos pins s σ H _ I h) fun ws s2 ⟨zs, H2, I2, rz, q2⟩ => ⟨I2.kIn, ?_⟩
    rw [k2]
    exact runKG F gd hr hb hx I2 .nil rz q2
  refine hq.imp fun σ H Q ⟨P, G0, H0, W, n, f, G, K, hc, S, e, h⟩ => ?_
  refine TR.one (ev := ev2 ek) (rel1 := relA) (K := fun (y : List D × Bool) n2 => ∃ zs, ([] : List D).length = 0 ∧ y.1.length = ks.length ∧ pick ([] ++ y.1) ord = some zs ∧ ev zs n2 K) hc S e fun y n2 hk u G2 H2 S2 L2 r2 => ?_
  obtain ⟨zs, h1, h2, h3, h4⟩ := hk
  have r := gK_of (m := 0) .nil (RdL.mono rg_sub r2) rfl h2 h3
  exact spF_of (b := false) hc S2 r (np _ _ _ h4) h4 fun r n' hr v G' H' S' L' q => h r n' hr v G' H' S' (Le.trans S.bs S2.bs.st L2 L') q
end
end DL

set_option maxHeartbeats 4000000
/-! DLP: found.append(left.pop(i)). -/
namespace DL
open PySem PySem.Spec PyProof.Rows L2
section
variable {X : Cx} {cl : Cls0} {a : Expr} {pos : Pos} {x y : Str}
theorem ixN_seq {len t : Nat} {m : Int} (h : ixN len m = some t) : seqIndex? m len = some t ∧ -(len : Int) ≤ m ∧ m < len := by
  unfold ixN at h
  unfold seqIndex?
  split at h
  · rename_i h0
    split at h
    · rename_i h1
      cases h
      refine ⟨?_, by omega, by omega⟩
      simp only [if_neg (show ¬ m < 0 by omega)]
      simp [h0, h1]
    · cases h
  · rename_i h0
    split at h
    · rename_i h1
      cases h
      refine ⟨?_, by omega, by omega⟩
      simp only [if_pos (show m < 0 by omega)]
      have : (0 : Int) ≤ m + len ∧ m + len < len := by omega
      simp [this.1, this.2, Int.add_comm]
    · cases h
theorem xs_appP {ea : Ev DB} {i j : Nat} {px py ap bp cp cq : Pos} (hij : i ≠ j) (hN : X.N[i]? = some x) (hv : Vis X.env.scope x) (hd : (x == ("__debug__" : Str)) = false) (hcd : (x == ("__classdict__" : Str)) = false)
    (hN' : X.N[j]? = some y) (hv' : Vis X.env.scope y) (hd' : (y == ("__debug__" : Str)) = false) (hcd' : (y == ("__classdict__" : Str)) = false) (ha : PE X a (tE cl ea)) (pa : plainX a = true) (hline : (ap.endLine == cp.line) = true) (hline2 : (bp.endLine == cq.line) = true) :
    PS X (.Expr (.Call (.Attribute (.Name x px) "append" ap) [.Call (.Attribute (.Name y py) "pop" bp) [a] [] cq] [] cp) pos) (tS cl fun K f n => match f[i]?, f[j]? with
      | some (.l xs b), some (.l ys c) => ea f n fun x n1 => match x.1 with
        | .int m => ∃ t d, ixN ys.length m = some t ∧ ys[t]? = some d ∧ xs.length < sizeLine ∧ ys.length ≤ sizeLine ∧ K.nx ((f.set j (.l (ys.eraseIdx t) c)).set i (.l (xs ++ [d]) (b && fl c d))) n1
        | _ => False
      | _, _ => False) := by
  have hp := pe_bm PySem.F.plainAttrs_list PySem.F.slot_list_pop PySem.F.type_list_pop mt_popAt (pe_var (pos := py) hN' hv' hd' hcd') (pa_cons ha pa_nil (star_cons pa [] X.env)) (by rfl) (by rw [star_cons pa]; rfl) hline2 (star_cons pa [] X.env) (by rfl)
  have pa2 : plainX (.Call (.Attribute (.Name y py) "pop" bp) [a] [] cq) = true := by rfl
  refine (ps_expr (pe_bm PySem.F.plainAttrs_list PySem.F.slot_list_append PySem.F.type_list_append mt_append (pe_var (pos := px) hN hv hd hcd) (pa_cons hp pa_nil (star_cons pa2 [] X.env)) (by rfl) (by rw [star_cons pa2]; rfl) hline (star_cons pa2 [] X.env) (by rfl)) (by rfl)).imp fun D σ H ⟨P, G0, H0, W, n, f, G, K, hcl, S, e, hn, hr, hct⟩ => ?_
  dsimp only at e
  split at e
  · rename_i xs bl ys bc hf hg
    obtain ⟨q, vs, e1, w, h2, r2⟩ := ownL S hf
    obtain ⟨p, us, e3, w3, h4, r4⟩ := ownL S hg
    refine ⟨_, e1, .inl ⟨rfl, _, .inl (.inl h2)⟩, ?_⟩
    refine ⟨_, e3, .inl ⟨rfl, _, .inl (.inl h4)⟩, P, G0, H0, W, n, f, G, _, hcl, S, e, fun r n1 hk v G1 H1 S1 L1 r1 => ?_⟩
    obtain ⟨r, br⟩ := r
    cases r with
    | int m =>
      obtain ⟨t, d, ht, hd2, hl, hl2, kn⟩ := hk
      obtain ⟨q', vs', e1', w', h2', r2'⟩ := ownL S1 hf
      obtain ⟨p', us', e3', w3', h4', r4'⟩ := ownL S1 hg
      rw [e1] at e1'
      cases e1'
      rw [e3] at e3'
      cases e3'
      cases (show RdD P (rg br G1 H0) v (.int m) from r1)
      rw [← r4'.length] at ht hl2
      obtain ⟨z1, z2, z3⟩ := ixN_seq ht
      have zs := sizeLine_eq
      obtain ⟨w0, hw0, rw0⟩ := r4'.get hd2
      refine ⟨p, us', m, t, w0, rfl, rfl, h4', by omega, by omega, z1, hw0, ?_⟩
      have hne : q ≠ p := fun z => hij (S1.wk.inj i j p (z ▸ w') w3')
      have S2 := S1.putOwn (o := .lst (us'.eraseIdx t)) (s := .l (ys.eraseIdx t) bc) w3' h4' (fun _ z => by cases z) (fun _ z => by cases z) ⟨p, us'.eraseIdx t, by rw [e3]; rfl, w3', upd_same, RdL.eraseIdx t r4'⟩
      have hf2 : (f.set j (.l (ys.eraseIdx t) bc))[i]? = some (.l xs bl) := by rw [List.getElem?_set_ne (Ne.symm hij)]; exact hf
      refine ⟨q, vs', w0, rfl, rfl, by rw [upd_ne hne]; exact h2', by rw [r2'.length]; exact hl, hn _ _ kn W σ G1 _ L1.g (S2.putOwn w' (by rw [upd_ne hne]; exact h2') (fun _ z => by cases z) (fun _ z => by cases z) ?_)⟩
      refine ⟨q, vs' ++ [w0], by rw [e1]; rfl, w', upd_same, RdL.append (r2'.mono (rg_le fun z => (Bool.and_eq_true_iff.mp z).1)) (.cons ?_ .nil)⟩
      exact RdD.mono (rg_le fun z => (Bool.and_eq_true_iff.mp z).2) rw0.fl
    | _ => exact (show False from hk).elim
  · exact e.elim
end
end DL

set_option maxHeartbeats 4000000
/-! DLQ: names that get the parts of a tuple or a list. -/
namespace DL
open PySem PySem.Spec PySem.W PyProof.Rows L2

section
variable {X : Cx} {cl : Cls0} {a b c ex : Expr} {pos p : Pos}
theorem unpacked_list {prog : Program} {w : World} {A : Around} {E : Value → Shared → Prop} {s : Shared} {env : Env} {es : List Expr} {k : Nat} {l : Addr} {items : Array Value} {Q : Unit → Shared → Prop} (hh : A.handled = none) (hl : s.heap.IsList l items)
    (hn : (assignEach es env).length = items.size) (hstar : (assignEach es env).findIdx? (·.1) = none)
    (h : ∀ h', Heap.ExtBut s.heap.objs.size s.heap h' → wpAny (model prog w) A (assignInOrder ((assignEach es env).map (·.2)) items.toList) Q E { s with heap := h' }) :
    wpAny (model prog w) A (assign (.Tuple es k pos) env (.ref l)) Q E s := by
  rw [assign_Tuple]
  refine wpAny_bind (wpAny_standAt ?_)
  unfold unpack
  rw [hn, hstar]
  exact wpAny_bind (wpAny_holding (kun_itemsOf hh hl h))
theorem pg_seq {es : List Expr} {k : Nat} {t : TGs} {n : Nat} (hc : X.calm = true) (h : PGs X es t)
    (hn : (assignEach es X.env).length = n) (hst : (assignEach es X.env).findIdx? (·.1) = none) :
    PG X (.Tuple es k pos) (fun v σ H Q => ∃ a xs, v = .ref a ∧ (SqT X.K H a xs ∨ SqL X.K H a xs) ∧ xs.length = n ∧ t xs σ H Q) := by
  refine ⟨fun pins s σ H v u Q I r hw => ?_⟩
  obtain ⟨a, xs, e1, hq, hl, hw⟩ := hw
  subst e1
  cases r
  rcases hq with hq | hq
  · obtain ⟨its, rv, ht, hz⟩ := I.tuple hq
    refine assign_Tuple_tuple (I.ok.hd hc) ht (by simp [hn, ← hl, rv.length]) hst fun h' hx => ?_
    have I1 : Inv X pins σ H { s with heap := h' } := I.kept (t' := s.toks) fun b o e => hx b o (Nat.ne_of_lt (Heap.lt_size e)) e
    exact h.run pins _ σ H xs _ Q I1 (by simpa using rv) hw
  · obtain ⟨its, rv, ht, hz⟩ := I.list hq
    refine unpacked_list (I.ok.hd hc) ht.isList (by simp [hn, ← hl, rv.length]) hst fun h' hx => ?_
    have I1 : Inv X pins σ H { s with heap := h' } := I.kept (t' := s.toks) fun b o e => hx b o (Nat.ne_of_lt (Heap.lt_size e)) e
    exact h.run pins _ σ H xs _ Q I1 (by simpa using rv) hw
theorem swapsTup {e : Expr} {es : List Expr} {k : Nat} {pt : Pos} (l : Nat) (env : Env) : swapsWithSole [.Tuple es k pt] e l env = pure false := by
  cases e <;> rfl
theorem xs_unp2 {ea : Ev DB} {N : List Str} {sc : Scope} {ts : List Nat} {es : List Expr} {k : Nat} {pt : Pos} (so : StoreOk X N sc) (hc : X.calm = true) (ht : chkTs N sc ts es = true) (ha : PE X a (tE cl ea)) (hw : swappedStores [.Tuple es k pt] a X.env = pure none) :
    PS X (.Assign [.Tuple es k pt] a pos) (tS cl fun K f n => ea f n fun x n1 => match x with
      | (.tup xs, b) => xs.length = ts.length ∧ ∃ f', setTs f ts (xs.map fun d => (d, fl b d)) = some f' ∧ K.nx f' n1
      | (.lst xs, b) => xs.length = ts.length ∧ ∃ f', setTs f ts (xs.map fun d => (d, fl b d)) = some f' ∧ K.nx f' n1
      | _ => False) := by
  obtain ⟨h1, h2⟩ := pgs_of so ht
  obtain ⟨h3, h4⟩ := assigns_of (env := X.env) ht
  refine (ps_asg ha (pg_seq (k := k) (pos := pt) hc h1 (h3.trans h2) h4) (swapsTup _ _) hw).imp fun D σ H ⟨P, G0, H0, W, n, f, G, K, hcl, S, e, hn, hr, hct⟩ => ?_
  refine ⟨P, G0, H0, W, n, f, G, _, hcl, S, e, fun x n1 hx v G1 H1 S1 L1 r1 => ?_⟩
  obtain ⟨x, bx⟩ := x
  cases x with
  | tup xs =>
    obtain ⟨hl, f', h5, kn⟩ := hx
    have r1' : RdD P (rg bx G1 H0) v (.tup xs) := r1
    cases r1' with
    | tup h6 r2 =>
      exact ⟨_, _, rfl, .inl (SqT.of (S1.bs.gh _ _ (rg_sub _ _ h6))), by rw [r2.length, hl], SR.setTs S1 (rdB_all r2) h5 fun σ' S' _ => hn _ _ kn W σ' G1 H1 L1.g S'⟩
  | lst xs =>
    obtain ⟨hl, f', h5, kn⟩ := hx
    have r1' : RdD P (rg bx G1 H0) v (.lst xs) := r1
    cases r1' with
    | lst h6 r2 =>
      exact ⟨_, _, rfl, .inr (SqL.of (S1.bs.gh _ _ (rg_sub _ _ h6))), by rw [r2.length, hl], SR.setTs S1 (rdB_all r2) h5 fun σ' S' _ => hn _ _ kn W σ' G1 H1 L1.g S'⟩
  | _ => exact (show False from hx).elim
end
end DL

set_option maxHeartbeats 4000000
/-! DLJ: the place of a number in a list. -/
namespace DL
open PySem PySem.Spec PyProof.Rows L2

section
variable {X : Cx} {cl : Cls0} {a b c ex : Expr} {pos p : Pos}
theorem flat_ints : ∀ ns : List Int, (ns.map V.int).all flatV = true
  | [] => rfl
  | _ :: ns => by rw [List.map_cons, List.all_cons, flat_ints ns]; rfl
theorem eqV_int (i j : Int) : eqV (.int i) (.int j) = decide (i = j) := by
  unfold eqV
  by_cases h : i = j
  · subst h; simp
  · simp [h]
theorem xe_ixo {ea eb : Ev DB} {ap cp : Pos} (ha : PE X a (tO cl ea)) (hb : PE X b (tE cl eb)) (pb : plainX b = true) (hbase : attributeBase a "index" X.env (eval a X.env) = eval a X.env) (hline : (ap.endLine == cp.line) = true) :
    PE X (.Call (.Attribute a "index" ap) [b] [] cp) (tE cl fun f n k => ea f n fun x n1 => match x with
      | (.lst xs, _) => eb f n1 fun y n2 => match y.1 with
        | .int m => ∃ ns j, intsOf xs = some ns ∧ ns[j]? = some m ∧ (∀ i, i < j → ns[i]? ≠ some m) ∧ k (.int (j : Nat), true) n2
        | _ => False
      | _ => False) := by
  refine (pe_bm PySem.F.plainAttrs_list PySem.F.slot_list_index PySem.F.type_list_index mt_index ha (pa_cons hb pa_nil (star_cons pb [] X.env)) hbase (by rw [star_cons pb]; rfl) hline (star_cons pb [] X.env) (by rfl)).imp fun σ H Q ⟨P, G0, H0, W, n, f, G, K, hc, S, e, h⟩ => ?_
  refine ⟨P, G0, H0, W, n, f, G, _, hc, S, e, fun x n1 hx v G1 H1 S1 L1 r1 => ?_⟩
  obtain ⟨x, bx⟩ := x
  cases x with
  | lst xs =>
    have r1' := r1
    obtain ⟨pp, vs, rfl, _, _, hp2, r⟩ := r1
    refine ⟨.inl ⟨rfl, vs, SqL.of hp2⟩, ?_⟩
    refine ⟨P, G0, H0, W, n1, f, G1, _, hc, S1, hx, fun y n2 hy u G2 H2 S2 L2 r2 => ?_⟩
    have r3 := kO.step S.bs.st S1 L1 L2 S2.bs.st r1'
    obtain ⟨y, by'⟩ := y
    cases y with
    | int m =>
      cases int_of r2
      obtain ⟨ns, j, hi, hj, hno, kj⟩ := hy
      obtain ⟨pp', vs', e', _, _, hp3, r4⟩ := r3
      cases e'
      have ev := ints_ofD r4 hi
      subst ev
      refine ⟨pp, _, .int m, j, .int m, rfl, rfl, SqL.of hp3, rfl, flat_ints ns, by rw [List.getElem?_map, hj]; rfl, by rw [eqV_int]; simp, fun i z hij hz => ?_, h _ _ kj _ G2 H2 S2 (Le.trans S.bs S1.bs.st L1 L2) (.int _)⟩
      rw [List.getElem?_map] at hz
      obtain ⟨w, hw, rfl⟩ := Option.map_eq_some_iff.mp hz
      rw [eqV_int, decide_eq_false_iff_not]
      intro e
      exact hno i hij (by rw [hw, e])
    | _ => exact (show False from hy).elim
  | _ => exact (show False from hx).elim
end
end DL

set_option maxHeartbeats 4000000
/-! DLK: a written dict of whole numbers. -/
namespace DL
open PySem PySem.Spec PyProof.Rows L2

section
variable {X : Cx} {cl : Cls0} {pos p : Pos}
theorem merge_app : ∀ (more acc : List (Key × V)), (∀ kv ∈ more, ∀ a ∈ acc, a.1 ≠ kv.1) → more.Pairwise (fun a b => a.1 ≠ b.1) → mergeK acc more = acc ++ more
  | [], acc, _, _ => by rw [List.append_nil]; rfl
  | kv :: more, acc, h, hp => by
    have e : putK acc kv.1 kv.2 = acc ++ [(kv.1, kv.2)] := by
      unfold putK
      rw [if_neg]
      rw [List.any_eq_true]
      rintro ⟨a, ha, e⟩
      exact h kv List.mem_cons_self a ha (of_decide_eq_true e)
    have e2 : mergeK acc (kv :: more) = mergeK (putK acc kv.1 kv.2) more := rfl
    rw [e2, e, merge_app more _ (fun w hw a ha => ?_) (List.pairwise_cons.mp hp).2, List.append_assoc]
    · rfl
    · rcases List.mem_append.mp ha with z | z
      · exact h w (List.mem_cons_of_mem _ hw) a z
      · rw [List.mem_singleton.mp z]
        exact (List.pairwise_cons.mp hp).1 w hw
theorem pairs_c (σ : L2.St) (H : Hp) : ∀ (kvs : List (Int × Int)) (Q : List (V × V) → Hp → Prop), tPairs (kvs.map fun kv => (tC (.int kv.1), tC (.int kv.2))) σ H Q = Q (kvs.map fun kv => (V.int kv.1, V.int kv.2)) H
  | [], Q => rfl
  | kv :: kvs, Q => pairs_c σ H kvs fun ps H3 => Q ((V.int kv.1, V.int kv.2) :: ps) H3
theorem dsp_pps : ∀ {kvs : List (Int × Int)} {keys : List (Option Expr)} {vals : List Expr}, dspOk kvs keys vals = true → PPs X pos keys vals (kvs.map fun kv => (tC (.int kv.1), tC (.int kv.2))) ∧ keys.all (·.isSome) = true ∧ keys.length = vals.length ∧ keys.length = kvs.length
  | [], [], [], _ => ⟨pps_nil, rfl, rfl, rfl⟩
  | (k, v) :: r, some (.Constant (.int i) _ _) :: ks, .Constant (.int j) _ _ :: vs, h => by
    unfold dspOk at h
    obtain ⟨h, h3⟩ := Bool.and_eq_true_iff.mp h
    obtain ⟨h1, h2⟩ := Bool.and_eq_true_iff.mp h
    cases of_decide_eq_true h1
    cases of_decide_eq_true h2
    obtain ⟨a, b, c, d⟩ := dsp_pps h3
    exact ⟨pps_cons pe_int pe_int a, by rw [List.all_cons, b]; rfl, by rw [List.length_cons, List.length_cons, c], by rw [List.length_cons, List.length_cons, d]⟩
theorem ints_RdL {P : Pt} {G : Hp} : ∀ kvs : List (Int × Int), RdL P G (kvs.map fun kv => V.int kv.2) (kvs.map fun kv => D.int kv.2)
  | [] => .nil
  | kv :: kvs => .cons (.int _) (ints_RdL kvs)
theorem xe_dsp {kvs : List (Int × Int)} {keys : List (Option Expr)} {vals : List Expr} (h : dspOk kvs keys vals = true) (hn : kvs.Pairwise fun a b => a.1 ≠ b.1) (h0 : kvs ≠ []) (h15 : kvs.length ≤ 15) :
    PE X (.Dict keys vals pos) (tE cl fun _ n k => k (.dic (kvs.map fun kv => .inl kv.1) (kvs.map fun kv => .int kv.2), true) n) := by
  obtain ⟨a, b, c, d⟩ := dsp_pps (X := X) (pos := pos) h
  refine (pe_disp a b c (fun z => h0 (List.eq_nil_of_length_eq_zero (by rw [← d, z]; rfl))) (by omega)).imp fun σ H Q ⟨P, G0, H0, W, n, f, G, K, hc, S, e, h⟩ => fun q hq => ?_
  rw [pairs_c]
  have em : mergeK [] (kvs.map fun kv => ((.inl kv.1 : Key), V.int kv.2)) = kvs.map fun kv => ((.inl kv.1 : Key), V.int kv.2) := by
    rw [merge_app _ _ (fun _ _ a ha => by cases ha) ?_, List.nil_append]
    refine List.pairwise_map.mpr (hn.imp fun h z => h ?_)
    exact Sum.inl.inj z
  refine ⟨upd_same, kvs.map fun kv => ((.inl kv.1 : Key), V.int kv.2), by rw [List.map_map]; rfl, by rw [List.length_map]; exact h15, ?_⟩
  rw [upd_upd, em]
  obtain ⟨a1, a2, a3, a4⟩ := fin_new (o := .dK (kvs.map fun kv => ((.inl kv.1 : Key), V.int kv.2))) S S Le.rfl' hq
  refine h _ _ e _ _ _ a1 a2 (.dic (vs := kvs.map fun kv => V.int kv.2) ?_ (by rw [List.length_map, List.length_map]) (ints_RdL kvs))
  have ez : (kvs.map fun kv => (.inl kv.1 : Key)).zip (kvs.map fun kv => V.int kv.2) = kvs.map fun kv => ((.inl kv.1 : Key), V.int kv.2) := by
    rw [← List.zip_map']
  rw [ez]
  exact a4 _
/-- the stream made anew of the script -/
def spStream (K : PySem.W.Frag) : Sp := fun vs H Q _ => ∃ (a : Addr) (ns : List Int), vs = [.ref a] ∧ SqL K H a (ns.map V.int) ∧ ∀ l s, H l = none → s ≠ l → H s = none → Q (.ref s) (upd (upd H l (.lst (ns.map V.int))) s (.lst [.ref l, .int 0, .int 0, .int 19]))
theorem xe_rdw {CX : CXT} {E : XK} {x y z : Str} {p1 p2 p3 p4 p5 pos : Pos} {k k2 kc j m : Nat} {fa fa2 : Addr} {fd fd2 : FuncData} {ps : List Str} (F : FnOk X.prog X.w X.K X.mg X.base CX k fa fd ps (spDraw cl)) (hr : Room k X.A) (hg : Gl X x) (hm : X.mg x = some (.ref fa)) (hk : PySem.W.keepIn X.K (.ref fa) = true) (hb : Binds X.K fd ps [])
    (F2 : FnOk X.prog X.w X.K X.mg X.base CX k2 fa2 fd2 ["script"] (spStream X.K)) (hr2 : Room k2 X.A) (hg2 : Gl X y) (hm2 : X.mg y = some (.ref fa2)) (hk2 : PySem.W.keepIn X.K (.ref fa2) = true) (hb2 : Binds X.K fd2 ["script"] []) (hx : Passes CX X E) (hx2 : Passes CX X E)
    (hok : ∀ a H, cl.ok a H → ∃ ns : List Int, SqL X.K H a (ns.map V.int)) (hN : X.N[j]? = some z) (hv : Vis X.env.scope z) (hd : (z == ("__debug__" : Str)) = false) (hcd : (z == ("__classdict__" : Str)) = false)
    (d1 : (x == ("__debug__" : Str)) = false := by decide) (d2 : (y == ("__debug__" : Str)) = false := by decide) :
    PE X (.Call (.Name x p1) [.Call (.Name y p2) [.Name z p3] [] p4, .Constant (.int (m : Int)) kc p5] [] pos) (tE cl fun f n k => f[j]? = some .scr ∧ 0 < (m : Int) ∧ (m : Int) < 2 ^ 62 ∧ ∀ d : Int, 0 ≤ d → d < m → k (.int d, true) n) := by
  refine (pe_call F hr hg hm hk hb .nil hx (pa_cons (pe_call F2 hr2 hg2 hm2 hk2 hb2 .nil hx2 (pa_cons (pe_var hN hv hd hcd) pa_nil) d2) (pa_cons pe_int pa_nil)) d1).imp fun σ H Q ⟨P, G0, H0, W, n, f, G, K, hcl, S, ⟨hf, m0, m1, hd⟩, h⟩ => ?_
  obtain ⟨a, Hs, e1, ok1, kps⟩ := S.sl j _ hf
  rw [hcl] at ok1
  obtain ⟨ns, sq⟩ := hok _ _ ok1
  have sq2 : SqL X.K H a (ns.map V.int) := by
    rcases sq with (z | ⟨o, z⟩) | z
    · obtain ⟨q1, q2, q3⟩ := kps _ _ z
      exact .inl (.inl (S.bs.h0 a _ q3 q1 q2))
    · obtain ⟨q1, q2, q3⟩ := kps _ _ z
      exact .inl (.inr ⟨o, S.bs.h0 a _ q3 q1 q2⟩)
    · exact .inr z
  refine ⟨_, slot_at e1, a, ns, rfl, sq2, fun l sa hl ne hsa => ⟨⟨sa, l, cl, 0⟩, 0, m, rfl, rfl, m0, m1, ⟨ne, ns, 0, 0, 19, upd_same, by rw [upd_ne (Ne.symm ne), upd_same], by decide, by decide, by decide, by decide, by decide⟩, fun d H' d0 d1 keep st => ?_⟩⟩
  have kp : ∀ b o, H b = some o → H' b = some o := fun b o hb => by
    have n1 : b ≠ l := fun z => by rw [z, hl] at hb; cases hb
    have n2 : b ≠ sa := fun z => by rw [z, hsa] at hb; cases hb
    exact keep b o (by rw [upd_ne n2, upd_ne n1]; exact hb) n2 n1
  have L : Le P G H G H' := ⟨Sub.rfl', fun _ _ => .inl rfl, fun b o hb _ _ => kp b o hb⟩
  obtain ⟨q1, q2, q3, q4, q5, q6, q7, q8⟩ := S.bs.st
  exact h _ _ (hd d d0 d1) _ G H' (S.le L (fun b o hb => kp b o (S.bs.gh b o hb)) ⟨q1, q2, q3, q4, q5, kp _ _ q6, kp _ _ q7, q8⟩) L (.int d)
end
end DL

set_option maxHeartbeats 4000000
/-! DLX: slices of lists and tuples, starred items, range downwards. -/
namespace DL
open PySem PySem.Spec PyProof.Rows L2
section
variable {X : Cx} {cl : Cls0} {a b c ex : Expr} {pos p : Pos} {x : Str}
theorem cut_whole {xs : List D} {lo hi : Option Int} (h : HT.sIx xs.length 0 lo = 0 ∧ HT.sIx xs.length xs.length hi = xs.length) : DL.cutD xs lo hi = xs := by
  unfold DL.cutD
  rw [h.1, h.2, List.drop_zero, Nat.sub_zero, List.take_length]
theorem xe_sls {ea : Ev DB} {el eh : Ev (Option Int)} {lo hi : Option Expr} {p2 : Pos} (ha : PE X a (tO cl ea)) (hl : PO X lo (tP cl el)) (hh : PO X hi (tP cl eh)) :
    PE X (.Subscript a (.Slice lo hi none p2) pos) (tE cl fun f n k => ea f n fun x n1 => el f n1 fun i n2 => eh f n2 fun j n3 => match x with
      | (.lst xs, b) => k (.lst (DL.cutD xs i j), b) n3
      | (.tup xs, b) => k (.tup (DL.cutD xs i j), b) n3
      | _ => False) := by
  refine (pe_slice (sl_list.or sl_tupA) ha hl hh).imp fun σ H Q ⟨P, G0, H0, W, n, f, G, K, hc, S, e, h⟩ => ?_
  refine TR.two (K := fun x i n2 => eh f n2 fun j n3 => match x with
      | (.lst xs, b) => K (.lst (DL.cutD xs i j), b) n3
      | (.tup xs, b) => K (.tup (DL.cutD xs i j), b) n3
      | _ => False) (Q := fun x l H2 => tP cl eh σ H2 fun u H3 => rSlL X.K x l u H3 Q ∨ rSlA X.K x l u H3 Q) kO kP hc S e fun x i n2 hk v u G2 H2 S2 L2 r1 r2 => ?_
  cases (show u = i from r2)
  refine TR.one hc S2 hk fun j n3 hj w G3 H3 S3 L3 r3 => ?_
  cases (show w = j from r3)
  have r1 := kO.step S.bs.st S2 L2 L3 S3.bs.st r1
  have L23 := Le.trans S.bs S2.bs.st L2 L3
  obtain ⟨x, bx⟩ := x
  cases x with
  | lst xs =>
    obtain ⟨p1, vs, rfl, _, _, h1, r1⟩ := r1
    refine .inl ⟨p1, vs, rfl, SqL.of h1, fun q hq => ?_⟩
    obtain ⟨a1, a2, a3, a4⟩ := fin_new (o := .lst (cutV vs i j)) S S3 L23 hq
    exact h _ _ hj _ _ _ a1 a2 (.lst (a4 _) ((r1.cut _ _).mono (rg_mono a3)))
  | tup xs =>
    have r1' : RdD P (rg bx G3 H0) v (.tup xs) := r1
    have r1'' := r1'
    cases r1' with
    | tup h1 r2 =>
      rename_i a1 vs _
      refine .inr ⟨a1, vs, rfl, SqT.of (S3.bs.gh _ _ (rg_sub _ _ h1)), fun hw => ?_, fun hw q hq => ?_⟩
      · rw [r2.length] at hw
        have hj' : K (.tup (DL.cutD xs i j), bx) n3 := hj
        rw [cut_whole hw] at hj'
        exact h _ _ hj' _ G3 H3 S3 L23 r1''
      · obtain ⟨b1, b2, b3, b4⟩ := fin_new (o := .tup (cutV vs i j)) S S3 L23 hq
        exact h _ _ hj _ _ _ b1 b2 (.tup (b4 _) ((r2.cut _ _).mono (rg_mono b3)))
  | _ => exact (show False from hj).elim
theorem xe_rvs {ea : Ev DB} {k1 : Nat} {p1 p2 p3 : Pos} (ha : PE X a (tO cl ea)) : PE X (.Subscript a (.Slice none none (some (.UnaryOp .USub (.Constant (.int 1) k1 p1) p2)) p3) pos) (tE cl fun f n k => ea f n fun x n1 => match x with
    | (.lst xs, b) => k (.lst xs.reverse, b) n1
    | (.tup xs, b) => k (.tup xs.reverse, b) n1
    | _ => False) := by
  refine (pe_revA ha).imp fun σ H Q ⟨P, G0, H0, W, n, f, G, K, hc, S, e, h⟩ => TR.one (K := fun x n1 => match x with
    | (.lst xs, b) => K (.lst xs.reverse, b) n1
    | (.tup xs, b) => K (.tup xs.reverse, b) n1
    | _ => False) hc S e fun x n1 hx v G1 H1 S1 L1 r1 => ?_
  obtain ⟨x, bx⟩ := x
  cases x with
  | lst xs =>
    obtain ⟨p1, vs, rfl, _, _, h1, r1⟩ := r1
    refine ⟨p1, vs, rfl, .inl ⟨SqL.of h1, fun q hq => ?_⟩⟩
    obtain ⟨a1, a2, a3, a4⟩ := fin_new (o := .lst vs.reverse) S S1 L1 hq
    exact h _ _ hx _ _ _ a1 a2 (.lst (a4 _) ((RdL.reverse r1).mono (rg_mono a3)))
  | tup xs =>
    have r1' : RdD P (rg bx G1 H0) v (.tup xs) := r1
    cases r1' with
    | tup h1 r2 =>
      rename_i p1 vs
      refine ⟨p1, vs, rfl, .inr ⟨SqT.of (S1.bs.gh _ _ (rg_sub _ _ h1)), fun q hq => ?_⟩⟩
      obtain ⟨a1, a2, a3, a4⟩ := fin_new (o := .tup vs.reverse) S S1 L1 hq
      exact h _ _ hx _ _ _ a1 a2 (.tup (a4 _) ((RdL.reverse r2).mono (rg_mono a3)))
  | _ => exact (show False from hx).elim
/-- a list's items, one starred -/
theorem xa_star {ea : Ev DB} {es : EvL} {xs : List Expr} {sp : Pos} (ha : PE X a (tO cl ea)) (hr : PA X xs (tA cl es)) : PA X (.Starred a sp :: xs) (tA cl fun f n k => ea f n fun x n1 => match x with
    | (.lst xs, b) => es f n1 fun ys c n2 => k (xs ++ ys) (fls b xs && c) n2
    | (.tup xs, b) => es f n1 fun ys c n2 => k (xs ++ ys) (fls b xs && c) n2
    | _ => False) := by
  refine (StX.pa_star ha hr).imp fun σ H Q ⟨P, G0, H0, W, n, f, G, K, hc, S, e, h⟩ => ?_
  refine ⟨P, G0, H0, W, n, f, G, _, hc, S, e, fun x n1 hx v G1 H1 S1 L1 r1 => ?_⟩
  have go : ∀ (ys : List D) (b : Bool) (vs : List V), RdL P (rg b G1 H0) vs ys → (es f n1 fun zs c n2 => K (ys ++ zs, fls b ys && c) n2) → tA cl es σ H1 fun us H2 => Q (vs ++ us) H2 := fun ys b vs r hz =>
    ⟨P, G0, H0, W, n1, f, G1, fun (z : List D × Bool) n2 => K (ys ++ z.1, fls b ys && z.2) n2, hc, S1, hz, fun z n2 kz us G2 H2 S2 L2 r2 => h _ _ kz (vs ++ us) G2 H2 S2 (Le.trans S.bs S1.bs.st L1 L2) (RdL.append (((RdL.fls r).mono (rg_mono L2.g)).mono (rg_le fun q => (Bool.and_eq_true_iff.mp q).1)) (RdL.mono (rg_le fun q => (Bool.and_eq_true_iff.mp q).2) (show RdL P (rg z.2 G2 H0) us z.1 from r2)))⟩
  obtain ⟨x, bx⟩ := x
  cases x with
  | lst ys =>
    obtain ⟨p1, vs, rfl, _, _, h1, r1⟩ := r1
    exact ⟨p1, vs, rfl, .inr (SqL.of h1), go ys bx vs r1 hx⟩
  | tup ys =>
    have r1' : RdD P (rg bx G1 H0) v (.tup ys) := r1
    cases r1' with
    | tup h1 r2 => exact ⟨_, _, rfl, .inl (SqT.of (S1.bs.gh _ _ (rg_sub _ _ h1))), go ys bx _ r2 hx⟩
  | _ => exact (show False from hx).elim
/-- range(a, b, -1) -/
theorem xi_rng3 {tg : Expr} {ea eb : Ev DB} {fz : Bool} {k1 : Nat} {p1 p2 : Pos} (hg : Gl X "range") (hm : X.mg "range" = none) (ha : PE X a (tE cl ea)) (hb : PE X b (tE cl eb)) (pa : plainX a = true) (pb : plainX b = true) :
    PI X tg (.Call (.Name "range" p) [a, b, .UnaryOp .USub (.Constant (.int 1) k1 p1) p2] [] pos) (tI cl (fun f n k => ea f n fun x n1 => eb f n1 fun y n2 => match x.1, y.1 with
      | .int i, .int j => (-(2 ^ 62) ≤ i ∧ i < 2 ^ 62 ∧ -(2 ^ 62) ≤ j ∧ j < 2 ^ 62) ∧ k ((List.range (i - j).toNat).map fun (m : Nat) => [(.int (i - m), true)]) n2
      | _, _ => False) fz) := by
  refine (pi_range3 hg hm (pa_cons ha (pa_cons hb (pa_cons (pe_un un_neg pe_int) pa_nil rfl) (star_cons pb _ X.env)) (star_cons pa _ X.env)) (star_cons pa _ X.env) (star_plain (es := [b, .UnaryOp .USub (.Constant (.int 1) k1 p1) p2]) (by rw [List.all_cons, pb]; rfl) pos X.env)).imp fun σ H R ⟨P, G0, H0, W, n, f, G, K, hc, S, e, h⟩ => TR.two kE kE hc S e fun x y n2 hk v u G2 H2 S2 L2 r1 r2 => ?_
  obtain ⟨x, bx⟩ := x
  obtain ⟨y, by'⟩ := y
  cases x <;> cases y <;> first
    | exact (show False from hk).elim
    | (rename_i i j
       obtain ⟨⟨h1, h2, h3, h4⟩, hk⟩ := hk
       cases int_of r1
       cases int_of r2
       refine ⟨1, rfl, i, j, -1, _, rfl, RgC.neg h1 h2 h3 h4, h _ _ hk _ G2 H2 S2 L2 ?_⟩
       refine ⟨fun _ => True, (List.range (i - j).toNat).map fun (m : Nat) => [V.int (i - m)], fun _ _ => trivial, fun _ _ _ => trivial, by simp, fun m vs its q1 q2 => ?_, fun m H3 _ hm => (show m < (i - j).toNat by simpa using hm), fun H3 _ => (show (i - j).toNat ≤ _ by simp), .inl fun m H3 w H4 _ hy hm => ?_⟩
       · rw [List.getElem?_map] at q1 q2
         cases q : (List.range (i - j).toNat)[m]? with
         | none => rw [q] at q1; cases q1
         | some z =>
           rw [q] at q1 q2
           cases q1
           cases q2
           exact ⟨.int _, trivial⟩
       · obtain ⟨e1, e2⟩ := hy
         have hm' : m < (i - j).toNat := by simpa using hm
         refine ⟨e1, ?_⟩
         rw [e2, List.getElem?_map, List.getElem?_range hm']
         show some [V.int (i - (m : Nat))] = some [V.int (i + (m : Nat) * -1)]
         congr 3
         omega)
end
end DL

set_option maxHeartbeats 4000000
/-! DLY: pop, extend, a pair of which the second is new and apart, a list within what is apart made longer. -/
namespace DL
open PySem PySem.Spec PyProof.Rows L2
section
variable {X : Cx} {cl : Cls0} {N : List Str} {a b c ex : Expr} {pos p : Pos} {x : Str}
theorem xs_pop {i : Nat} {px ap cp : Pos} (hN : X.N[i]? = some x) (hv : Vis X.env.scope x) (hd : (x == ("__debug__" : Str)) = false) (hcd : (x == ("__classdict__" : Str)) = false) (hline : (ap.endLine == cp.line) = true) :
    PS X (.Expr (.Call (.Attribute (.Name x px) "pop" ap) [] [] cp) pos) (tS cl fun K f n => match f[i]? with
      | some (.l xs b) => xs ≠ [] ∧ K.nx (f.set i (.l xs.dropLast b)) n
      | _ => False) := by
  refine (ps_expr (pe_bm0 PySem.F.plainAttrs_list PySem.F.slot_list_pop PySem.F.type_list_pop mt_pop (pe_var (pos := px) hN hv hd hcd) (by rfl) hline) (by rfl)).imp fun D σ H ⟨P, G0, H0, W, n, f, G, K, hcl, S, e, hn, hr, hct⟩ => ?_
  dsimp only at e
  split at e
  · rename_i xs bl hf
    obtain ⟨hne, kn⟩ := e
    obtain ⟨q, vs, e1, w, h2, r2⟩ := ownL S hf
    have hl := r2.length
    have h0 : 0 < xs.length := List.length_pos_iff.mpr hne
    refine ⟨_, e1, .inl ⟨rfl, _, .inl (.inl h2)⟩, q, vs, vs[vs.length - 1]'(by omega), rfl, rfl, h2, List.getElem?_eq_getElem _, hn _ _ kn W σ G _ Sub.rfl' (S.putOwn w h2 (fun _ z => by cases z) (fun _ z => by cases z) ?_)⟩
    exact ⟨q, vs.dropLast, by rw [e1]; rfl, w, upd_same, r2.dropLast⟩
  · exact e.elim
theorem xs_ext {ea : Ev DB} {i : Nat} {px ap cp : Pos} (hN : X.N[i]? = some x) (hv : Vis X.env.scope x) (hd : (x == ("__debug__" : Str)) = false) (hcd : (x == ("__classdict__" : Str)) = false) (ha : PE X a (tO cl ea)) (pa : plainX a = true) (hline : (ap.endLine == cp.line) = true) :
    PS X (.Expr (.Call (.Attribute (.Name x px) "extend" ap) [a] [] cp) pos) (tS cl fun K f n => match f[i]? with
      | some (.l xs b) => ea f n fun x n1 => match x with
        | (.lst ys, c) => xs.length + ys.length ≤ sizeLine ∧ K.nx (f.set i (.l (xs ++ ys) (b && fls c ys))) n1
        | _ => False
      | _ => False) := by
  refine (ps_expr (pe_bm PySem.F.plainAttrs_list PySem.F.slot_list_extend PySem.F.type_list_extend mt_extend (pe_var (pos := px) hN hv hd hcd) (pa_cons ha pa_nil (star_cons pa [] X.env)) (by rfl) ?_ hline (star_cons pa [] X.env) (by rfl)) (by rfl)).imp fun D σ H ⟨P, G0, H0, W, n, f, G, K, hcl, S, e, hn, hr, hct⟩ => ?_
  · rw [star_cons pa]; rfl
  dsimp only at e
  split at e
  · rename_i xs bl hf
    obtain ⟨q, vs, e1, w, h2, r2⟩ := ownL S hf
    refine ⟨_, e1, .inl ⟨rfl, _, .inl (.inl h2)⟩, P, G0, H0, W, n, f, G, _, hcl, S, e, fun r n1 hx v G1 H1 S1 L1 r1 => ?_⟩
    obtain ⟨q', vs', e1', w', h2', r2'⟩ := ownL S1 hf
    rw [e1] at e1'
    cases e1'
    obtain ⟨y, c⟩ := r
    cases y with
    | lst ys =>
      obtain ⟨hl, kn⟩ := hx
      obtain ⟨p1, us, rfl, _, _, h3, r3⟩ := r1
      refine ⟨q, p1, vs', us, rfl, rfl, h2', h3, by rw [r2'.length, r3.length]; exact hl, hn _ _ kn W σ G1 _ L1.g (S1.putOwn w' h2' (fun _ z => by cases z) (fun _ z => by cases z) ?_)⟩
      refine ⟨q, vs' ++ us, by rw [e1]; rfl, w', upd_same, RdL.append (r2'.mono (rg_le fun z => (Bool.and_eq_true_iff.mp z).1)) ((RdL.fls r3).mono (rg_le fun z => (Bool.and_eq_true_iff.mp z).2))⟩
    | _ => exact (show False from hx).elim
  · exact e.elim
theorem xs_parS {ea eb : Ev DB} {i j : Nat} {sc : Scope} {y : Str} {px py pt pt2 : Pos} {kt k2 : Nat} (so : StoreOk X N sc) (hc : X.calm = true) (hsc : X.env.scope = sc) (hk : X.env.scope.kind = .function) (h1 : locNL N sc i x = true) (h2 : locNL N sc j y = true) (hij : i ≠ j) (hxy : x ≠ y) (ha : PE X a (tE cl ea)) (hb : PE X b (tE cl eb)) (pa : plainX a = true) (pb : plainX b = true)
    (hl : (px.line == py.line) = true) (f1 : ([a, b].all (foldedForSure 8)) = false) (f2 : ([a, b].all (constantsAlone 8)) = false) :
    PS X (.Assign [.Tuple [.Name x px, .Name y py] kt pt] (.Tuple [a, b] k2 pt2) pos) (tS cl fun K f n => ea f n fun r n1 => eb (view f) n1 fun q n2 => r.1.scal = true ∧ q.2 = true ∧ K.nx ((f.set i (.v r.1 true)).set j (.sep q.1)) n2) := by
  obtain ⟨a1, a2⟩ := locNL_of h1
  obtain ⟨b1, b2⟩ := locNL_of h2
  obtain ⟨e, nd, _⟩ := so
  have k1 : X.env.kindOf x = some .local := by show X.env.scope.names.lookup x = _; rw [hsc]; exact a2
  have k2' : X.env.kindOf y = some .local := by show X.env.scope.names.lookup y = _; rw [hsc]; exact b2
  have kb : X.env.blockKind = .function := by unfold Env.blockKind; rw [hk]; rfl
  refine (ps_par hc (by rw [e]; exact nd) (by rw [e]; exact a1) (by rw [e]; exact b1) hij (by rw [hsc]; exact a2) (by rw [hsc]; exact b2) (pa_cons ha (pa_cons hb pa_nil (star_cons pb [] X.env)) (star_cons pa [b] X.env)) (swap_yes kb k1 k2' hxy pa pb hl f1 f2) (by rfl)).imp fun D σ H ⟨P, G0, H0, W, n, f, G, K, hcl, S, ev, hn, hr, hct⟩ => ?_
  refine ⟨P, G0, H0, W, n, f, G, _, hcl, S, ev, fun r n1 hr1 v G1 H1 S1 L1 r1 => ?_⟩
  refine ⟨P, allG P H1, H1, fun _ _ => False, n1, view f, allG P H1, _, hcl, viewR S1, hr1, fun q n2 ⟨hs, hb2, kn⟩ u G2 H2 S2 L2 r2 => ⟨v, u, rfl, ?_⟩⟩
  have L3 : Le P G1 H1 G1 H2 := ⟨Sub.rfl', fun _ _ => .inl rfl, L2.h⟩
  have gh : Sub G1 H2 := fun a o z => L2.h a o (S1.bs.gh a o z) (S1.gne z).1 (S1.gne z).2
  have S3 := S1.le L3 gh S2.bs.st
  have r2' : RdD P (rg q.2 G2 H1) u q.1 := r2
  rw [hb2] at r2'
  have new : ∀ a o, rg true G2 H1 a = some o → H1 a = none := fun a o z => by
    cases y : H1 a with
    | none => rfl
    | some _ =>
      have z' : (match H1 a with | none => G2 a | some _ => none) = some o := z
      rw [y] at z'; cases z'
  have r1' : RdD P (rg true G1 H0) v r.1 := RdD.scal hs r1
  have S4 := S3.setV (i := i) r1'
  exact hn _ _ kn _ _ G1 H2 L1.g (S4.setSep (Hn := H1) (fun a o z => S2.bs.gh a o (rg_sub a o z)) new (fun k a w => S1.wk.h k a w) (fun a o z => by
    have hq := new a o z
    refine ⟨?_, S1.bs.h0n hq, S1.bs.sne hq⟩
    cases g : G1 a with
    | none => rfl
    | some u => rw [S1.bs.gh a u g] at hq; cases hq) r2')
theorem xs_lateP {i k : Nat} {k0 k1 : Nat} {z : Str} {p1 p2 p3 p4 ap cp : Pos} (hN : X.N[i]? = some x) (hv : Vis X.env.scope x) (hd : (x == ("__debug__" : Str)) = false) (hcd : (x == ("__classdict__" : Str)) = false) (hline : (ap.endLine == cp.line) = true) :
    PS X (.Expr (.Call (.Attribute (.Subscript (.Name x p1) (.Constant (.int (k : Int)) k0 p2) p3) "append" ap) [.Constant (.str z) k1 p4] [] cp) pos) (tS cl fun K f n => match f[i]? with
      | some (.sep (.lst xs)) => ∃ ys, xs[k]? = some (.lst ys) ∧ ys.length < sizeLine ∧ k < 2 ^ 62 ∧ K.nx (f.set i .no) n
      | some (.sep (.tup xs)) => ∃ ys, xs[k]? = some (.lst ys) ∧ ys.length < sizeLine ∧ k < 2 ^ 62 ∧ K.nx (f.set i .no) n
      | _ => False) := by
  refine (ps_expr (pe_bm PySem.F.plainAttrs_list PySem.F.slot_list_append PySem.F.type_list_append mt_append (pe_ix ix_seq (pe_var (pos := p1) hN hv hd hcd) pe_int fun _ _ => rfl) (pa_cons pe_str pa_nil) (by rfl) (by rfl) hline (by rfl) (by rfl)) (by rfl)).imp fun D σ H ⟨P, G0, H0, W, n, f, G, K, hcl, S, e, hn, hr, hct⟩ => ?_
  dsimp only at e
  split at e
  · rename_i xs hf
    obtain ⟨ys, hk, hl, hkk, kn⟩ := e
    obtain ⟨v, Sg, e1, r1, g1, m1⟩ := S.sl i _ hf
    cases r1 with
    | lst h2 r2 =>
      rename_i q vs
      obtain ⟨w, hw, rw1⟩ := r2.get hk
      cases rw1 with
      | lst h3 r3 =>
        rename_i q2 us
        have hq := g1 _ _ h2
        have hq2 := g1 _ _ h3
        have hwi : W i q2 := by
          rcases m1 _ _ h3 with ⟨_, z⟩ | z
          · cases z
          · exact z
        have at1 : L2.atI vs (k : Int) = some (.ref q2) := by
          have hlt := (List.getElem?_eq_some_iff.mp hw).1
          unfold L2.atI L2.ixN
          rw [if_pos (by omega), if_pos (by omega)]
          exact hw
        refine ⟨_, slot_at e1, .inl ⟨q, vs, (k : Int), .ref q2, rfl, rfl, SqL.of hq, at1, .inl ⟨rfl, _, .inl (.inl hq2)⟩, q2, us, .str z, rfl, rfl, hq2, by rw [r3.length]; exact hl, ?_⟩⟩
        refine hn _ _ kn _ σ G _ Sub.rfl' (S.spoil fun a o ho hw2 => ?_)
        have ne : a ≠ q2 := fun y => by
          subst y
          obtain ⟨zs, z⟩ := hw2 hwi
          rw [hq2] at ho
          cases ho
          cases z
        rw [upd_ne ne]
        exact ho
  · rename_i xs hf
    obtain ⟨ys, hk, hl, hkk, kn⟩ := e
    obtain ⟨v, Sg, e1, r1, g1, m1⟩ := S.sl i _ hf
    cases r1 with
    | tup h2 r2 =>
      rename_i q vs
      obtain ⟨w, hw, rw1⟩ := r2.get hk
      cases rw1 with
      | lst h3 r3 =>
        rename_i q2 us
        have hq := g1 _ _ h2
        have hq2 := g1 _ _ h3
        have hwi : W i q2 := by
          rcases m1 _ _ h3 with ⟨_, z⟩ | z
          · cases z
          · exact z
        have at1 : L2.atI vs (k : Int) = some (.ref q2) := by
          have hlt := (List.getElem?_eq_some_iff.mp hw).1
          unfold L2.atI L2.ixN
          rw [if_pos (by omega), if_pos (by omega)]
          exact hw
        refine ⟨_, slot_at e1, .inr (.inl ⟨q, vs, (k : Int), .ref q2, rfl, rfl, SqT.of hq, at1, .inl ⟨rfl, _, .inl (.inl hq2)⟩, q2, us, .str z, rfl, rfl, hq2, by rw [r3.length]; exact hl, ?_⟩)⟩
        refine hn _ _ kn _ σ G _ Sub.rfl' (S.spoil fun a o ho hw2 => ?_)
        have ne : a ≠ q2 := fun y => by
          subst y
          obtain ⟨zs, z⟩ := hw2 hwi
          rw [hq2] at ho
          cases ho
          cases z
        rw [upd_ne ne]
        exact ho
  · exact e.elim
end
/-! ### lists within what is apart made longer, one behind another -/
theorem SlR.wmono {P : Pt} {G H H0 : Hp} {Wi Wj : Addr → Prop} {x : Option V} {s : Sl} (h : ∀ a, Wi a → Wj a) (r : SlR P G H H0 Wi x s) : SlR P G H H0 Wj x s := by
  cases s with
  | no => trivial
  | v d b => exact r
  | l xs b => obtain ⟨p, vs, e, w, q⟩ := r; exact ⟨p, vs, e, h _ w, q⟩
  | k ks xs b => obtain ⟨p, vs, e, w, q⟩ := r; exact ⟨p, vs, e, h _ w, q⟩
  | kt ks xs b => obtain ⟨p, vs, e, w, q⟩ := r; exact ⟨p, vs, e, h _ w, q⟩
  | o c ns xs b => obtain ⟨p, C, dx, cs, vs, e, w, q⟩ := r; exact ⟨p, C, dx, cs, vs, e, h _ w, q⟩
  | scr => exact r
  | sep d => obtain ⟨v, S', e, r, g, m⟩ := r; exact ⟨v, S', e, r, g, fun a o z => (m a o z).imp id (h a)⟩
section
variable {P : Pt} {G0 H0 G H : Hp} {W : Nat → Addr → Prop} {n : Nat} {σ : L2.St} {f : Fr}
theorem SR.setNo (S : SR P G0 H0 W n σ f G H) {j : Nat} {v : V} : SR P G0 H0 W n (σ.set j (some v)) (f.set j .no) G H := by
  refine ⟨S.bs, S.wk, by rw [List.length_set, List.length_set]; exact S.len, fun k s e => ?_⟩
  by_cases h : j = k
  · subst h
    have hi : j < f.length := by
      rcases Nat.lt_or_ge j f.length with z | z
      · exact z
      · rw [List.getElem?_eq_none (by rw [List.length_set]; exact z)] at e; cases e
    rw [List.getElem?_set_self hi] at e
    cases e
    trivial
  · rw [List.getElem?_set_ne h] at e
    have := S.sl k s e
    rwa [List.getElem?_set_ne h]
/-- .. and is the name's again -/
theorem SR.backSep {W' : Nat → Addr → Prop} {i : Nat} {d : D} {v : V} {Sg : Hp} (S : SR P G0 H0 W' n σ f G H) (hw : ∀ k a, W' k a ↔ k ≠ i ∧ W k a) (inj : ∀ j k a, W j a → W k a → j = k)
    (own : ∀ a, W i a → (∃ o, H a = some o ∧ ∀ ys, o ≠ .tup ys) ∧ G a = none ∧ H0 a = none ∧ a ≠ P.s ∧ a ≠ P.l) (e : (σ[i]?).join = some v) (r : RdD P Sg v d) (g : Sub Sg H) (m : ∀ a o, Sg a = some o → (∃ xs, o = .tup xs) ∨ W i a) :
    SR P G0 H0 W n σ (f.set i (.sep d)) G H := by
  have sp : ∀ k a, W k a → k = i ∧ W i a ∨ W' k a := fun k a w => by
    by_cases z : k = i
    · exact .inl ⟨z, z ▸ w⟩
    · exact .inr ((hw k a).mpr ⟨z, w⟩)
  refine ⟨S.bs, ⟨inj, fun k a w => ?_, fun k a w => ?_, fun k a w => ?_, fun k a w => ?_, fun k a w => ?_⟩, by rw [List.length_set]; exact S.len, fun k s z => ?_⟩
  · rcases sp k a w with ⟨_, w⟩ | w
    · obtain ⟨⟨o, h, _⟩, _⟩ := own a w
      rw [h]; simp
    · exact S.wk.h k a w
  · rcases sp k a w with ⟨_, w⟩ | w
    · exact (own a w).2.1
    · exact S.wk.g k a w
  · rcases sp k a w with ⟨_, w⟩ | w
    · exact (own a w).2.2.1
    · exact S.wk.h0 k a w
  · rcases sp k a w with ⟨_, w⟩ | w
    · exact (own a w).2.2.2
    · exact S.wk.s k a w
  · rcases sp k a w with ⟨_, w⟩ | w
    · obtain ⟨⟨o, h, t⟩, _⟩ := own a w
      intro ys y
      rw [h] at y
      exact t ys (Option.some.inj y)
    · exact S.wk.nt k a w
  · by_cases h : i = k
    · subst h
      have hi : i < f.length := by
        rcases Nat.lt_or_ge i f.length with z' | z'
        · exact z'
        · rw [List.getElem?_eq_none (by rw [List.length_set]; exact z')] at z; cases z
      rw [List.getElem?_set_self hi] at z
      cases z
      exact ⟨v, Sg, e, r, g, m⟩
    · rw [List.getElem?_set_ne h] at z
      exact (S.sl k s z).wmono fun a w => ((hw k a).mp w).2
end
/-- lists made longer by numbers -/
def Lng (t : Nat) (S S' : Hp) : Prop := ∀ a o, S a = some o → (∃ ws k, o = .lst ws ∧ k ≤ t ∧ S' a = some (.lst (ws ++ List.replicate k (V.int 2)))) ∨ ((∀ ws, o ≠ .lst ws) ∧ S' a = some o)
theorem RdL.twos {P : Pt} {S : Hp} : ∀ k : Nat, RdL P S (List.replicate k (V.int 2)) (List.replicate k (D.int 2))
  | 0 => .nil
  | k + 1 => .cons (.int 2) (RdL.twos k)
mutual
theorem RdD.grow {P : Pt} {S S' : Hp} {t : Nat} (L : Lng t S S') : ∀ {v : V} {d : D}, RdD P S v d → d.mut = true → ∃ d', RdD P S' v d'
  | _, _, .non, _ => ⟨_, .non⟩
  | _, _, .bl b, _ => ⟨_, .bl b⟩
  | _, _, .int b, _ => ⟨_, .int b⟩
  | _, _, .str b, _ => ⟨_, .str b⟩
  | _, _, .strm, h => absurd h (by unfold D.mut; exact Bool.false_ne_true)
  | _, _, .dic _ _ _, h => absurd h (by unfold D.mut; exact Bool.false_ne_true)
  | _, _, .dit _ _ _, h => absurd h (by unfold D.mut; exact Bool.false_ne_true)
  | _, _, .ins _ _ _ _, h => absurd h (by unfold D.mut; exact Bool.false_ne_true)
  | _, .lst xs, .lst e r, h => by
    have h' : D.muts xs = true := by unfold D.mut at h; exact h
    obtain ⟨ys, q⟩ := RdL.grow L r h'
    rcases L _ _ e with ⟨ws, k, e1, _, e2⟩ | ⟨z, _⟩
    · cases e1
      exact ⟨_, .lst e2 (q.append (RdL.twos k))⟩
    · exact absurd rfl (z _)
  | _, .tup xs, .tup e r, h => by
    have h' : D.muts xs = true := by unfold D.mut at h; exact h
    obtain ⟨ys, q⟩ := RdL.grow L r h'
    rcases L _ _ e with ⟨ws, k, e1, _⟩ | ⟨_, e2⟩
    · cases e1
    · exact ⟨_, .tup e2 q⟩
theorem RdL.grow {P : Pt} {S S' : Hp} {t : Nat} (L : Lng t S S') : ∀ {vs : List V} {ds : List D}, RdL P S vs ds → D.muts ds = true → ∃ ds', RdL P S' vs ds'
  | _, _, .nil, _ => ⟨_, .nil⟩
  | _, _, .cons r rs, h => by
    unfold D.muts at h
    obtain ⟨h1, h2⟩ := Bool.and_eq_true_iff.mp h
    obtain ⟨d', q⟩ := RdD.grow L r h1
    obtain ⟨ds', qs⟩ := RdL.grow L rs h2
    exact ⟨_, .cons q qs⟩
end
section
variable {X : Cx} {cl : Cls0} {N : List Str} {pos : Pos} {x y : Str}
theorem xs_lateF {i j : Nat} {k0 k1 k2 : Nat} {sc : Scope} {p1 p2 p3 p4 q1 q2 q3 q4 q5 ap cp : Pos} (so : StoreOk X N sc) (hcm : X.calm = true) (hp : PassesOwn (model X.prog X.w) X.A X.env X.xe)
    (hN : X.N[i]? = some x) (hv : Vis X.env.scope x) (hd : (x == ("__debug__" : Str)) = false) (hcd : (x == ("__classdict__" : Str)) = false)
    (hM : X.N[j]? = some y) (hw : Vis X.env.scope y) (he : (y == ("__debug__" : Str)) = false) (hce : (y == ("__classdict__" : Str)) = false) (hl : locN N sc j y = true) (hline : (ap.endLine == cp.line) = true) :
    PS X (.For (.Name y p4) (.Subscript (.Name x p1) (.Constant (.int 0) k0 p2) p3) [.Expr (.Call (.Attribute (.Subscript (.Name y q1) (.Constant (.int 1) k1 q2) q3) "append" ap) [.Constant (.int 2) k2 q4] [] cp) q5] [] pos) (tS cl fun K f n => match f[i]? with
      | some (.sep (.lst [.lst ps, .lst qs])) => i ≠ j ∧ j < f.length ∧ (∀ p ∈ ps, ∃ (s : Str) (ns : List Int), p = .tup [.str s, .lst (ns.map D.int)] ∧ ns.length + ps.length < sizeLine) ∧ D.muts [.lst ps, .lst qs] = true ∧
          ∀ x ys zs, ys.length ≤ qs.length + ps.length → K.nx ((f.set i (.sep (.lst (x :: .lst ys :: zs)))).set j .no) n
      | _ => False) := by
  refine (ps_for hp hcm (pi_seq (pe_ix ix_seq (pe_var (pos := p1) hN hv hd hcd) pe_int fun _ _ => rfl)) (pg_one so hl) (pss_one (ps_expr (pe_bm PySem.F.plainAttrs_list PySem.F.slot_list_append PySem.F.type_list_append mt_append (pe_ix ix_seq (pe_var (pos := q1) hM hw he hce) pe_int fun _ _ => rfl) (pa_cons pe_int pa_nil) (by rfl) (by rfl) hline (by rfl) (by rfl)) (by rfl))) (fun _ => rfl)).imp fun Z σ H ⟨P, G0, H0, W, n, f, G, K, hcl, S, e, hn, hr, hct⟩ => ?_
  dsimp only at e
  split at e
  · rename_i ps qs hf
    obtain ⟨hij, hjf, hps, hmu, kn⟩ := e
    obtain ⟨v, Sg, e1, r1, g1, m1⟩ := S.sl i _ hf
    cases r1 with
    | lst h2 r2 =>
    rename_i p vs
    cases r2 with
    | cons ra r2 =>
    cases r2 with
    | cons rb r2 =>
    cases r2
    cases ra with
    | lst ha ra =>
    rename_i a vs0
    cases rb with
    | lst hb rb =>
    rename_i b us
    have ow : ∀ {c ws}, Sg c = some (.lst ws) → W i c := fun {c ws} z => by
      rcases m1 _ _ z with ⟨_, z⟩ | z
      · cases z
      · exact z
    have hmu' : D.muts ps = true ∧ D.muts qs = true := by
      unfold D.muts D.muts D.muts at hmu
      obtain ⟨u1, u2⟩ := Bool.and_eq_true_iff.mp hmu
      obtain ⟨u2, _⟩ := Bool.and_eq_true_iff.mp u2
      unfold D.mut at u1 u2
      exact ⟨u1, u2⟩
    have wi := S.wk
    -- the name is given up for the while
    have Sa := (S.spoil (i := i) (H' := H) fun _ _ z _ => z)
    have Sb : SR P G0 H0 (fun k a => k ≠ i ∧ W k a) n σ ((f.set i .no).set j .no) G H := by
      refine ⟨Sa.bs, Sa.wk, by rw [List.length_set]; exact Sa.len, fun k s z => ?_⟩
      by_cases h : j = k
      · subst h
        rw [List.getElem?_set_self (by rw [List.length_set]; exact hjf)] at z
        cases z
        trivial
      · rw [List.getElem?_set_ne h] at z
        exact Sa.sl k s z
    refine ⟨_, slot_at e1, .inl ⟨p, [.ref a, .ref b], 0, .ref a, rfl, rfl, SqL.of (g1 _ _ h2), rfl, a, rfl, .inl ⟨⟨vs0, SqL.of (g1 _ _ ha)⟩, ?_⟩⟩⟩
    refine ⟨fun t q σ' H' => q = vs0.length - t ∧ t ≤ vs0.length ∧ σ'[i]? = σ[i]? ∧ SR P G0 H0 (fun k a => k ≠ i ∧ W k a) n σ' ((f.set i .no).set j .no) G H' ∧ (∀ c, W i c → ∃ o, H' c = some o ∧ ∀ ys, o ≠ .tup ys) ∧ H' a = some (.lst vs0) ∧
        ∃ S', Lng t Sg S' ∧ Sub S' H' ∧ ∀ c o, S' c = some o → (∃ xs, o = .tup xs) ∨ W i c, ⟨vs0.length, rfl, Nat.zero_le _, rfl, Sb, fun c w => ?_, g1 _ _ ha, Sg, fun c o z => ?_, g1, m1⟩, ?_⟩
    · cases q : H c with
      | none => exact absurd q (wi.h i c w)
      | some o => exact ⟨o, rfl, fun ys z => wi.nt i c w ys (by rw [q, z])⟩
    · cases o with
      | lst ws => exact .inl ⟨ws, 0, rfl, Nat.zero_le _, by rw [List.replicate_zero, List.append_nil]; exact z⟩
      | _ => exact .inr ⟨fun ws y => (by cases y), z⟩
    rintro t q σ' H' ⟨rfl, ht, hsi, S', own, hA, S2, lng, sub, mm⟩
    have hlen := ra.length
    by_cases hlt : t < vs0.length
    · refine .inr ⟨⟨vs0, vs0[t], SqL.of hA, List.getElem?_eq_getElem hlt⟩, fun σ' H' => t + 1 ≤ vs0.length ∧ σ'[i]? = σ[i]? ∧ SR P G0 H0 (fun k a => k ≠ i ∧ W k a) n σ' ((f.set i .no).set j .no) G H' ∧ (∀ c, W i c → ∃ o, H' c = some o ∧ ∀ ys, o ≠ .tup ys) ∧ H' a = some (.lst vs0) ∧
        ∃ S', Lng (t + 1) Sg S' ∧ Sub S' H' ∧ ∀ c o, S' c = some o → (∃ xs, o = .tup xs) ∨ W i c, fun σ' H' h => ⟨vs0.length - (t + 1), by omega, rfl, h⟩, fun u H4 hy => ?_⟩
      obtain ⟨rfl, hu⟩ : H4 = H' ∧ vs0[t]? = some u := ⟨hy.1, hy.2 vs0 (SqL.of hA)⟩
      obtain ⟨d, hd1, hd2⟩ := ra.getV hu
      obtain ⟨s, ns, rfl, hsz⟩ := hps d (List.mem_of_getElem? hd1)
      cases hd2 with
      | tup hc rc =>
      rename_i c cs
      cases rc with
      | cons rs rc =>
      cases rs
      cases rc with
      | cons rr rc =>
      cases rc
      cases rr with
      | lst hr' rr =>
      rename_i r ws
      have ews := rr.ints
      have hc2 : S2 c = some (.tup [.str s, .ref r]) := by
        rcases lng _ _ hc with ⟨_, _, z, _⟩ | ⟨_, z⟩
        · cases z
        · exact z
      obtain ⟨k, hk, hr2⟩ : ∃ k, k ≤ t ∧ S2 r = some (.lst (ws ++ List.replicate k (V.int 2))) := by
        rcases lng _ _ hr' with ⟨_, k, z, hk, y⟩ | ⟨z, _⟩
        · cases z
          exact ⟨k, hk, y⟩
        · exact absurd rfl (z _)
      have nra : a ≠ r := fun z => by
        subst z
        rw [ha] at hr'
        cases hr'
        rw [ews, List.getElem?_map] at hu
        cases zz : ns[t]? with
        | none => rw [zz] at hu; cases hu
        | some m => rw [zz] at hu; cases hu
      have wr := ow hr'
      have wl : ws.length = ns.length := by rw [ews, List.length_map]
      have eq1 : ((σ'.set j (some (.ref c)))[j]?).join = some (.ref c) := by
        have hj : j < σ'.length := by rw [S'.len, List.length_set, List.length_set]; exact hjf
        rw [List.getElem?_set_self hj]; rfl
      show _
      refine ⟨_, slot_at eq1, .inr (.inl ⟨c, [.str s, .ref r], 1, .ref r, rfl, rfl, SqT.of (sub _ _ hc2), rfl, .inl ⟨rfl, _, .inl (.inl (sub _ _ hr2))⟩, r, ws ++ List.replicate k (V.int 2), .int 2, rfl, rfl, sub _ _ hr2, ?_, ?_⟩)⟩
      · rw [List.length_append, List.length_replicate, wl]
        omega
      have S3 := (S'.setNo (j := j) (v := .ref c)).upd (q := r) (o := .lst (ws ++ List.replicate k (V.int 2) ++ [.int 2])) (wi.g i r wr) (wi.h0 i r wr) (fun k' w => w.1 (wi.inj k' i r w.2 wr)) (wi.s i r wr).1 (wi.s i r wr).2 (fun i' d' _ xs z => by rw [sub _ _ hr2] at z; cases z)
      rw [List.set_set] at S3
      refine ⟨hlt, by rw [List.getElem?_set_ne (Ne.symm hij)]; exact hsi, S3, fun c' w => ?_, by rw [upd_ne nra]; exact hA, upd S2 r (.lst (ws ++ List.replicate k (V.int 2) ++ [.int 2])), fun c' o z => ?_, sub.upd, fun c' o z => ?_⟩
      · by_cases y : c' = r
        · subst y
          exact ⟨_, upd_same, fun ys z => (by cases z)⟩
        · rw [upd_ne y]; exact own c' w
      · by_cases y : c' = r
        · subst y
          rw [hr'] at z
          cases z
          exact .inl ⟨ws, k + 1, rfl, by omega, by rw [upd_same, List.append_assoc, List.replicate_succ']⟩
        · rw [upd_ne y]
          rcases lng _ _ z with ⟨ws', k', y1, y2, y3⟩ | y1
          · exact .inl ⟨ws', k', y1, by omega, y3⟩
          · exact .inr y1
      · by_cases y : c' = r
        · subst y
          exact .inr wr
        · rw [upd_ne y] at z
          exact mm c' o z
    · have et : t = vs0.length := by omega
      subst et
      refine .inl ⟨⟨vs0, SqL.of hA, Nat.le_refl _⟩, ?_⟩
      obtain ⟨x0, rx⟩ := RdD.grow lng (.lst ha ra) (by unfold D.mut; exact hmu'.1)
      obtain ⟨ys, ry⟩ := RdL.grow lng rb hmu'.2
      obtain ⟨kb, hkb, hb2⟩ : ∃ k, k ≤ vs0.length ∧ S2 b = some (.lst (us ++ List.replicate k (V.int 2))) := by
        rcases lng _ _ hb with ⟨_, k, z, hk, y⟩ | ⟨z, _⟩
        · cases z
          exact ⟨k, hk, y⟩
        · exact absurd rfl (z _)
      obtain ⟨kp, _, hp2⟩ : ∃ k, k ≤ vs0.length ∧ S2 p = some (.lst ([.ref a, .ref b] ++ List.replicate k (V.int 2))) := by
        rcases lng _ _ h2 with ⟨_, k, z, hk, y⟩ | ⟨z, _⟩
        · cases z
          exact ⟨k, hk, y⟩
        · exact absurd rfl (z _)
      have whole : RdD P S2 (.ref p) (.lst (x0 :: .lst (ys ++ List.replicate kb (D.int 2)) :: List.replicate kp (D.int 2))) := .lst hp2 (.cons rx (.cons (.lst hb2 (ry.append (RdL.twos kb))) (RdL.twos kp)))
      have fin := S'.backSep (i := i) (W := W) (d := .lst (x0 :: .lst (ys ++ List.replicate kb (D.int 2)) :: List.replicate kp (D.int 2))) (v := .ref p) (Sg := S2) (fun _ _ => Iff.rfl) wi.inj (fun c w => ⟨own c w, wi.g i c w, wi.h0 i c w, wi.s i c w⟩) (by rw [hsi]; exact e1) whole sub mm
      have ef : ((f.set i .no).set j .no).set i (.sep (.lst (x0 :: .lst (ys ++ List.replicate kb (D.int 2)) :: List.replicate kp (D.int 2)))) = (f.set i (.sep (.lst (x0 :: .lst (ys ++ List.replicate kb (D.int 2)) :: List.replicate kp (D.int 2))))).set j .no := by
        rw [List.set_comm _ _ (Ne.symm hij), List.set_set]
      rw [ef] at fin
      exact hn _ _ (kn x0 (ys ++ List.replicate kb (D.int 2)) (List.replicate kp (D.int 2)) (by
        have l1 := ry.length
        have l2 := rb.length
        rw [List.length_append, List.length_replicate]
        omega)) W σ' G H' Sub.rfl' fin
  · exact e.elim
end
end DL

set_option maxHeartbeats 4000000
/-! DLZ: for k in dict([(k, v), ..]). -/
namespace DL
open PySem PySem.Spec PyProof.Rows L2
/-- a new dict is locked -/
theorem pe_dlock {X : Cx} {e : Expr} {td : TE} (he : PE X e td) : PE X e (fun σ H Q => td σ H fun x H1 => ∃ d kvs, x = .ref d ∧ H1 d = some (.dK kvs) ∧ ∀ od, Q (.ref d) (upd H1 d (.frz od (.dK kvs)))) := by
  constructor
  intro pins s σ H Q I h
  refine thn (he.run pins s σ H _ I h) fun u s1 ⟨x, H1, I1, rx, d, kvs, ex, at_, q⟩ => ?_
  subst ex
  obtain ⟨od, I2⟩ := I1.lock at_ (by first | trivial | exact ⟨⟩ | constructor)
  exact ⟨.ref d, _, I2, rx, q od⟩
theorem putK_fst {j : Key} {v : V} : ∀ acc : List (Key × V), (putK acc j v).map (·.1) = putKs (acc.map (·.1)) j := by
  intro acc
  unfold putK putKs
  by_cases h : acc.any (fun kv => decide (kv.1 = j)) = true
  · have m : j ∈ acc.map (·.1) := by
      obtain ⟨kv, h1, h2⟩ := List.any_eq_true.mp h
      exact List.mem_map.mpr ⟨kv, h1, of_decide_eq_true h2⟩
    simp only [h, if_pos m, if_true]
    rw [List.map_map]
    apply List.map_congr_left
    intro kv _
    show (if kv.1 = j then (kv.1, v) else kv).1 = kv.1
    by_cases e : kv.1 = j
    · rw [if_pos e]
    · rw [if_neg e]
  · have m : j ∉ acc.map (·.1) := fun z => by
      obtain ⟨kv, h1, h2⟩ := List.mem_map.mp z
      exact h (List.any_eq_true.mpr ⟨kv, h1, decide_eq_true h2⟩)
    rw [if_neg h, if_neg m, List.map_append]
    rfl
theorem mergeK_fst : ∀ (more acc : List (Key × V)), (mergeK acc more).map (·.1) = (more.map (·.1)).foldl putKs (acc.map (·.1))
  | [], _ => rfl
  | kv :: more, acc => by
    show (mergeK (putK acc kv.1 kv.2) more).map (·.1) = _
    rw [mergeK_fst more, putK_fst]
    rfl
theorem pairsR {P : Pt} {G H : Hp} {K : PySem.W.Frag} (g : Sub G H) : ∀ {vs : List V} {xs : List D} {ks : List Key}, RdL P G vs xs → pairKeys xs = some ks → ∃ (ps : List Addr) (kvs : List (Key × V)), vs = ps.map V.ref ∧ Paired (fun p kv => SqT K H p [kV kv.1, kv.2]) ps kvs ∧ kvs.map (·.1) = ks
  | _, _, ks, .nil, e => by cases e; exact ⟨[], [], rfl, .nil, rfl⟩
  | _, _, ks, .cons (d := d) (ds := ds) r rs, e => by
    unfold pairKeys at e
    split at e
    · rename_i h1; cases h1
    · rename_i a b rest h1
      cases h1
      cases r with
      | tup at_ r2 =>
        cases r2 with
        | cons ra r3 =>
          cases r3 with
          | cons rb r4 =>
            cases r4
            split at e
            · rename_i j js e1 e2
              cases e
              obtain ⟨ps, kvs, e3, e4, e5⟩ := pairsR g rs e2
              have ek := key_ofD ra e1
              subst ek
              subst e3
              exact ⟨_ :: ps, (j, _) :: kvs, rfl, .cons (SqT.of (g _ _ at_)) e4, by rw [List.map_cons, e5]⟩
            · cases e
    · cases e
theorem xi_dctk {X : Cx} {cl : Cls0} {a tg : Expr} {p pos : Pos} {el : EvL} {fz : Bool} (hc : X.calm = true) (hg : Gl X "dict") (hm : X.mg "dict" = none) (ha : PE X a (tL cl el)) (pa : plainX a = true) :
    PI X tg (.Call (.Name "dict" p) [a] [] pos) (tI cl (fun f n k => el f n fun xs b n1 => ∃ ks, pairKeys xs = some ks ∧ k ((ks.foldl putKs []).map fun j => [((keyD j, true) : DB)]) n1) fz) := by
  refine (pi_keys (pe_dlock (pe_callTy (call_dictP hc) hg hm PyProof.Rows.boot_dict (pa_cons ha pa_nil (star_cons pa [] X.env)) (by decide) (by decide) (star_cons pa [] X.env) rfl))).imp fun σ H R ⟨P, G0, H0, W, n, f, G, K, hcl, S, e, h⟩ => ?_
  refine ⟨P, G0, H0, W, n, f, G, fun (x : List D × Bool) n1 => ∃ ks, pairKeys x.1 = some ks ∧ K ((ks.foldl putKs []).map fun j => [((keyD j, true) : DB)]) n1, hcl, S, e, fun x n1 ⟨ks, hk, kn⟩ v G1 H1 S1 L1 r1 => ?_⟩
  obtain ⟨q, vs, rfl, hn, hgq, hh, r⟩ := r1
  obtain ⟨ps, kvs, e1, e2, e3⟩ := pairsR (K := X.K) S1.bs.gh (RdL.mono rg_sub r) hk
  subst e1
  refine ⟨q, ps, kvs, rfl, SqL.of hh, e2, fun d hd => ⟨d, mergeK [] kvs, rfl, upd_same, fun od => ⟨d, od, rfl, .inl ⟨mergeK [] kvs, upd_same, ?_⟩⟩⟩⟩
  have same : upd (upd H1 d (.dK (mergeK [] kvs))) d (.frz od (.dK (mergeK [] kvs))) = upd H1 d (.frz od (.dK (mergeK [] kvs))) := by
    funext z
    unfold upd
    split <;> rfl
  rw [same]
  obtain ⟨a1, a2, a3, a4⟩ := fin_new (o := .frz od (.dK (mergeK [] kvs))) S S1 L1 hd
  have sne := S1.bs.sne hd
  refine h _ _ kn _ _ _ a1 a2 ?_
  have hks : ks.foldl putKs [] = (mergeK [] kvs).map (·.1) := by rw [mergeK_fst, e3]; rfl
  rw [hks]
  generalize mergeK [] kvs = kw at *
  refine ⟨fun H2 => H2 d = some (.frz od (.dK kw)), kw.map fun kv => [kV kv.1], fun H2 k => k _ _ upd_same sne.1 sne.2, fun z H2 g => g _ _ upd_same, by simp, fun i us its q1 q2 => ?_, fun i H2 st hi => ⟨st, by simpa using hi⟩, fun H2 st => ⟨st, by simp⟩, .inl fun i H2 w H3 st hy hi => ?_⟩
  · rw [List.getElem?_map] at q1 q2
    rw [List.getElem?_map] at q2
    cases z : kw[i]? with
    | none => rw [z] at q1; cases q1
    | some kv =>
      rw [z] at q1 q2
      cases q1
      cases q2
      obtain ⟨j, w⟩ := kv
      refine ⟨?_, trivial⟩
      cases j with
      | inl i => exact .int i
      | inr x => exact .str x
  · obtain ⟨e1, k, w', e2, e3⟩ := hy
    refine ⟨e1, ?_⟩
    rw [List.getElem?_map, e2, e3]
    rfl
end DL

set_option maxHeartbeats 4000000
/-! DLT: parts of what is apart spoilt; what is apart made longer. -/
namespace DL
open PySem PySem.Spec PyProof.Rows L2
section
variable {P : Pt} {G0 H0 G H : Hp} {W : Nat → Addr → Prop} {n : Nat} {σ : L2.St} {f : Fr}
/-- a name's own addresses may be more -/
theorem SR.widen (S : SR P G0 H0 W n σ f G H) {i : Nat} {U : Addr → Prop} (hu : ∀ a, U a → H a ≠ none ∧ (∀ ys, H a ≠ some (.tup ys)) ∧ (∀ k, ¬ W k a) ∧ G a = none ∧ H0 a = none ∧ a ≠ P.s ∧ a ≠ P.l) :
    SR P G0 H0 (fun k a => W k a ∨ (k = i ∧ U a)) n σ f G H := by
  refine ⟨S.bs, ⟨fun j k a x y => ?_, fun k a x => ?_, fun k a x => ?_, fun k a x => ?_, fun k a x => ?_, fun k a x => ?_⟩, S.len, fun j t e => ?_⟩
  · rcases x with x | ⟨x1, x2⟩ <;> rcases y with y | ⟨y1, y2⟩
    · exact S.wk.inj j k a x y
    · exact absurd x ((hu a y2).2.2.1 j)
    · exact absurd y ((hu a x2).2.2.1 k)
    · rw [x1, y1]
  · rcases x with x | ⟨_, x⟩
    · exact S.wk.h k a x
    · exact (hu a x).1
  · rcases x with x | ⟨_, x⟩
    · exact S.wk.g k a x
    · exact (hu a x).2.2.2.1
  · rcases x with x | ⟨_, x⟩
    · exact S.wk.h0 k a x
    · exact (hu a x).2.2.2.2.1
  · rcases x with x | ⟨_, x⟩
    · exact S.wk.s k a x
    · exact (hu a x).2.2.2.2.2
  · rcases x with x | ⟨_, x⟩
    · exact S.wk.nt k a x
    · exact (hu a x).2.1
  · have q := S.sl j t e
    cases t with
    | no => trivial
    | v d b => exact q
    | l xs b => obtain ⟨p, vs, e, w, h, r⟩ := q; exact ⟨p, vs, e, .inl w, h, r⟩
    | k ks xs b => obtain ⟨p, vs, e, w, h, r⟩ := q; exact ⟨p, vs, e, .inl w, h, r⟩
    | kt ks xs b => obtain ⟨p, vs, e, w, h, r⟩ := q; exact ⟨p, vs, e, .inl w, h, r⟩
    | o c ns xs b => obtain ⟨p, C, dx, cs, vs, e, w, r⟩ := q; exact ⟨p, C, dx, cs, vs, e, .inl w, r⟩
    | scr => exact q
    | sep d => obtain ⟨v, S', e, r, h, m⟩ := q; exact ⟨v, S', e, r, h, fun a o z => (m a o z).imp id .inl⟩
theorem gno (S : SR P G0 H0 W n σ f G H) {a : Addr} (h : H a = none) : G a = none := by
  cases g : G a with
  | none => rfl
  | some u => rw [S.bs.gh a u g] at h; cases h
theorem onlyF_get {is : List Nat} : ∀ {f : Fr} {j m : Nat} {s : Sl}, (onlyF is m f)[j]? = some s → s = .no ∨ ((m + j) ∈ is ∧ ∃ s0, f[j]? = some s0 ∧ s = viewS s0)
  | s0 :: f, 0, m, s, e => by
    unfold onlyF at e
    rw [List.getElem?_cons_zero] at e
    by_cases h : is.contains m = true
    · rw [if_pos h] at e
      cases e
      exact .inr ⟨by simpa using h, s0, rfl, rfl⟩
    · rw [if_neg h] at e
      cases e
      exact .inl rfl
  | s0 :: f, j + 1, m, s, e => by
    unfold onlyF at e
    rw [List.getElem?_cons_succ] at e
    rcases onlyF_get e with h | ⟨h1, s1, h2, h3⟩
    · exact .inl h
    · exact .inr ⟨by rw [show m + (j + 1) = m + 1 + j by omega]; exact h1, s1, by rw [List.getElem?_cons_succ]; exact h2, h3⟩
theorem onlyF_len {is : List Nat} : ∀ {f : Fr} {m : Nat}, (onlyF is m f).length = f.length
  | [], m => rfl
  | s0 :: f, m => by
    unfold onlyF
    rw [List.length_cons, List.length_cons, onlyF_len]
theorem onlyR (S : SR P G0 H0 W n σ f G H) {i : Nat} {d : D} (hf : f[i]? = some (.sep d)) : ∃ Sg : Hp, (∀ a o, Sg a = some o → (∃ xs, o = .tup xs) ∨ W i a) ∧ SR P Sg H (fun _ _ => False) n σ (onlyF [i] 0 f) Sg H := by
  obtain ⟨v, Sg, e1, r1, g1, m1⟩ := S.sl i _ hf
  obtain ⟨ne, ns, a1, b1, c1, h1, h2, rest⟩ := S.bs.st
  have off : ∀ p, (∃ xs, H p = some (.lst xs)) → (∀ k, ¬ W k p) → Sg p = none := fun p ⟨xs, hp⟩ hw => by
    cases q : Sg p with
    | none => rfl
    | some o =>
      have h3 := g1 _ _ q
      rcases m1 _ _ q with ⟨ys, z⟩ | z
      · rw [hp] at h3; rw [z] at h3; cases h3
      · exact absurd z (hw i)
  refine ⟨Sg, m1, ⟨⟨g1, Sub.rfl', fun _ _ => .inl rfl, fun a o h _ _ => h, S.bs.st, off _ ⟨_, h1⟩ fun k w => (S.wk.s k _ w).1 rfl, off _ ⟨_, h2⟩ fun k w => (S.wk.s k _ w).2 rfl⟩, ⟨fun _ _ _ z => z.elim, fun _ _ z => z.elim, fun _ _ z => z.elim, fun _ _ z => z.elim, fun _ _ z => z.elim, fun _ _ z => z.elim⟩, by rw [S.len]; exact onlyF_len.symm, fun j s e => ?_⟩⟩
  rcases onlyF_get e with rfl | ⟨hj, s0, e0, rfl⟩
  · trivial
  · rw [Nat.zero_add, List.mem_singleton] at hj
    subst hj
    rw [hf] at e0
    cases e0
    exact ⟨v, by rw [e1], r1⟩
end
section
variable {X : Cx} {cl : Cls0} {N : List Str} {a b c ex : Expr} {pos p : Pos} {x : Str}
theorem xs_spoilE {CX : CXT} {E : XK} {k : Nat} {fa : Addr} {fd : FuncData} {i : Nat} {ea : Ev DB} {p1 p3 : Pos} (F : FnOk X.prog X.w X.K X.mg X.base CX k fa fd ["thing"] (spSpoil 10)) (hr : Room k X.A) (hg : Gl X "_law_spoilt") (hm : X.mg "_law_spoilt" = some (.ref fa)) (hk : PySem.W.keepIn X.K (.ref fa) = true) (hb : Binds X.K fd ["thing"] []) (hx : Passes CX X E)
    (ha : PE X a (tE cl ea)) (pa : plainX a = true) :
    PS X (.Expr (.Call (.Name "_law_spoilt" p1) [a] [] p3) pos) (tS cl fun K f n => match f[i]? with
      | some (.sep _) => ea (onlyF [i] 0 f) n fun x n1 => x.1.spo = true ∧ K.nx (f.set i .no) n1
      | _ => False) := by
  refine (ps_expr (pe_call F hr hg hm hk hb .nil hx (pa_cons ha pa_nil (star_cons pa [] X.env)) (by decide) (star_cons pa [] X.env) (star_plain (es := []) rfl p3 X.env)) rfl).imp fun D σ H ⟨P, G0, H0, W, n, f, G, K, hc, S, e, hn, hr, hct⟩ => ?_
  dsimp only at e
  split at e
  · rename_i d hf
    obtain ⟨Sg, m1, So⟩ := onlyR S hf
    refine ⟨P, Sg, H, fun _ _ => False, n, onlyF [i] 0 f, Sg, _, hc, So, e, fun r n1 ⟨hs, kn⟩ v G1 H1 S1 L1 r1 => ?_⟩
    have r1' : RdD P G1 v r.1 := RdD.mono (fun a o z => rg_sub a o z) (show RdD P (rg r.2 G1 H) v r.1 from r1)
    unfold DL.D.spo at hs
    obtain ⟨hs, h3⟩ := Bool.and_eq_true_iff.mp hs
    obtain ⟨h1, h2⟩ := Bool.and_eq_true_iff.mp hs
    refine ⟨P, cut P G1 r.1.subs, r.1, v, r.1.nod, rfl, r1'.cuts h1 fun _ h => h, h1, of_decide_eq_true h2, Nat.le_refl _, cut_spd S1.bs.gh h1 (of_decide_eq_true h3), fun H' _ pr => ?_⟩
    have L2 : Le P G H G H1 := ⟨Sub.rfl', fun _ _ => .inl rfl, L1.h⟩
    have gh : Sub G H1 := fun a o q => L1.h a o (S.bs.gh a o q) (S.gne q).1 (S.gne q).2
    have S2 := S.le L2 gh S1.bs.st
    have S3 := S2.widen (i := i) (U := fun a => H a = none ∧ ∃ vs, H1 a = some (.lst vs)) fun a ⟨h1, vs, h2⟩ => ⟨by rw [h2]; simp, fun ys z => (by rw [h2] at z; cases z), fun k w => S.wk.h k a w h1, by
      exact gno S h1, S.bs.h0n h1, S.bs.sne h1⟩
    refine hn _ _ kn _ σ G H' Sub.rfl' (S3.spoil (i := i) fun a o ho hw => pr a o ho fun ⟨d', _, _, _, vs, hvs⟩ => ?_)
    have h4 := cut_sub _ _ hvs
    have h5 := S1.bs.gh a _ h4
    rw [ho] at h5
    cases h5
    have no : ¬ (W i a ∨ (i = i ∧ (H a = none ∧ ∃ vs, H1 a = some (.lst vs)))) := fun z => by
      obtain ⟨xs, y⟩ := hw z
      cases y
    cases q : H a with
    | none => exact no (.inr ⟨rfl, q, _, ho⟩)
    | some o2 =>
      rcases L1.gx a (by rw [q]; simp) with z | ⟨ys, z⟩
      · rw [h4] at z
        rcases m1 a _ z.symm with ⟨xs, y⟩ | y
        · cases y
        · exact no (.inl y)
      · have hs : a ≠ P.s := fun y => by
          obtain ⟨_, ns, a1, b1, c1, e1, _⟩ := S.bs.st
          rw [y, e1] at z; cases z
        have hl : a ≠ P.l := fun y => by
          obtain ⟨_, ns, a1, b1, c1, _, e1, _⟩ := S.bs.st
          rw [y, e1] at z; cases z
        rw [L1.h a _ z hs hl] at ho
        cases ho
  · exact e.elim
end
mutual
theorem RdD.off {P : Pt} {S : Hp} {p : Addr} {o : HO} {d0 : D} (r0 : RdD P S (.ref p) d0) (h0 : d0.mut = true) : ∀ {v : V} {d : D}, RdD P S v d → d.mut = true → d.dep < d0.dep → RdD P (upd S p o) v d
  | _, _, .non, _, _ => .non
  | _, _, .bl b, _, _ => .bl b
  | _, _, .int b, _, _ => .int b
  | _, _, .str b, _, _ => .str b
  | _, _, .strm, h, _ => absurd h (by unfold D.mut; exact Bool.false_ne_true)
  | _, _, .dic _ _ _, h, _ => absurd h (by unfold D.mut; exact Bool.false_ne_true)
  | _, _, .dit _ _ _, h, _ => absurd h (by unfold D.mut; exact Bool.false_ne_true)
  | _, _, .ins _ _ _ _, h, _ => absurd h (by unfold D.mut; exact Bool.false_ne_true)
  | _, .lst xs, .lst (a := a) e r, h, m => by
    have h' : D.muts xs = true := by unfold D.mut at h; exact h
    have ne : a ≠ p := fun z => by
      subst z
      rw [RdD.fn r0 (.lst e r) h0 h] at m
      exact absurd m (Nat.lt_irrefl _)
    have m' : D.deps xs < d0.dep := Nat.lt_of_succ_lt m
    exact .lst (by rw [upd_ne ne]; exact e) (RdL.off r0 h0 r h' m')
  | _, .tup xs, .tup (a := a) e r, h, m => by
    have h' : D.muts xs = true := by unfold D.mut at h; exact h
    have ne : a ≠ p := fun z => by
      subst z
      rw [RdD.fn r0 (.tup e r) h0 h] at m
      exact absurd m (Nat.lt_irrefl _)
    have m' : D.deps xs < d0.dep := Nat.lt_of_succ_lt m
    exact .tup (by rw [upd_ne ne]; exact e) (RdL.off r0 h0 r h' m')
theorem RdL.off {P : Pt} {S : Hp} {p : Addr} {o : HO} {d0 : D} (r0 : RdD P S (.ref p) d0) (h0 : d0.mut = true) : ∀ {vs : List V} {ds : List D}, RdL P S vs ds → D.muts ds = true → D.deps ds < d0.dep → RdL P (upd S p o) vs ds
  | _, _, .nil, _, _ => .nil
  | _, _, .cons r rs, h, m => by
    unfold D.muts at h
    unfold D.deps at m
    obtain ⟨h1, h2⟩ := Bool.and_eq_true_iff.mp h
    exact .cons (RdD.off r0 h0 r h1 (by omega)) (RdL.off r0 h0 rs h2 (by omega))
end
section
variable {X : Cx} {cl : Cls0} {N : List Str} {a b c ex : Expr} {pos p : Pos} {x : Str}
theorem xs_appS {ea : Ev DB} {i : Nat} {px ap cp : Pos} (hN : X.N[i]? = some x) (hv : Vis X.env.scope x) (hd : (x == ("__debug__" : Str)) = false) (hcd : (x == ("__classdict__" : Str)) = false) (ha : PE X a (tE cl ea)) (pa : plainX a = true) (hline : (ap.endLine == cp.line) = true) :
    PS X (.Expr (.Call (.Attribute (.Name x px) "append" ap) [a] [] cp) pos) (tS cl fun K f n => match f[i]? with
      | some (.sep (.lst xs)) => ea (view f) n fun x n1 => D.muts xs = true ∧ x.2 = true ∧ xs.length < sizeLine ∧ K.nx (f.set i (.sep (.lst (xs ++ [x.1])))) n1
      | _ => False) := by
  refine (ps_expr (pe_bm PySem.F.plainAttrs_list PySem.F.slot_list_append PySem.F.type_list_append mt_append (pe_var (pos := px) hN hv hd hcd) (pa_cons ha pa_nil (star_cons pa [] X.env)) (by rfl) ?_ hline (star_cons pa [] X.env) (by rfl)) (by rfl)).imp fun D σ H ⟨P, G0, H0, W, n, f, G, K, hcl, S, e, hn, hr, hct⟩ => ?_
  · rw [star_cons pa]; rfl
  dsimp only at e
  split at e
  · rename_i xs hf
    obtain ⟨v0, Sg, e1, r0, g1, m1⟩ := S.sl i _ hf
    cases r0 with
    | lst hp rs =>
      rename_i q vs
      have hq := g1 _ _ hp
      have wq : W i q := by
        rcases m1 _ _ hp with ⟨_, z⟩ | z
        · cases z
        · exact z
      refine ⟨_, slot_at e1, .inl ⟨rfl, _, .inl (.inl hq)⟩, P, allG P H, H, fun _ _ => False, n, view f, allG P H, _, hcl, viewR S, e, fun r n1 ⟨hmu, hb, hl, kn⟩ u G1 H1 S1 L1 r1 => ?_⟩
      have L2 : Le P G H G H1 := ⟨Sub.rfl', fun _ _ => .inl rfl, L1.h⟩
      have gh : Sub G H1 := fun a o z => L1.h a o (S.bs.gh a o z) (S.gne z).1 (S.gne z).2
      have S2 := S.le L2 gh S1.bs.st
      have r1' : RdD P (rg r.2 G1 H) u r.1 := r1
      rw [hb] at r1'
      have new : ∀ a o, rg true G1 H a = some o → H a = none := fun a o z => by
        cases y : H a with
        | none => rfl
        | some _ =>
          have z' : (match H a with | none => G1 a | some _ => none) = some o := z
          rw [y] at z'; cases z'
      have hq1 : H1 q = some (.lst vs) := L1.h _ _ hq (S.wk.s i q wq).1 (S.wk.s i q wq).2
      have S3 := S2.widen (i := i) (U := fun a => H a = none ∧ ∃ o, H1 a = some o ∧ ∀ ys, o ≠ .tup ys) fun a ⟨h1, o, h2, h3⟩ => ⟨by rw [h2]; simp, fun ys z => (by rw [h2] at z; cases z; exact h3 ys rfl), fun k w => S.wk.h k a w h1, by
        exact gno S h1, S.bs.h0n h1, S.bs.sne h1⟩
      refine ⟨q, vs, u, rfl, rfl, hq1, by rw [rs.length]; exact hl, hn _ _ kn _ σ G _ Sub.rfl' (S3.putOwn (i := i) (q := q) (.inl wq) hq1 (fun _ z => by cases z) (fun _ z => by cases z) ?_)⟩
      have hd0 : (DL.D.lst xs).mut = true := by unfold DL.D.mut; exact hmu
      have rs' : RdL P (upd Sg q (.lst (vs ++ [u]))) vs xs := RdL.off (.lst hp rs) hd0 rs hmu (Nat.lt_succ_self _)
      have s1 : Sub (upd Sg q (.lst (vs ++ [u]))) (fun a => match upd Sg q (.lst (vs ++ [u])) a with | some o => some o | none => rg true G1 H a) := fun a o z => by
        show (match upd Sg q (.lst (vs ++ [u])) a with | some o => some o | none => rg true G1 H a) = some o
        rw [z]
      have s2 : Sub (rg true G1 H) (fun a => match upd Sg q (.lst (vs ++ [u])) a with | some o => some o | none => rg true G1 H a) := fun a o z => by
        have hn0 := new a o z
        have ne : a ≠ q := fun y => by rw [y, hq] at hn0; cases hn0
        have sg : Sg a = none := by
          cases y : Sg a with
          | none => rfl
          | some t => rw [g1 _ _ y] at hn0; cases hn0
        show (match upd Sg q (.lst (vs ++ [u])) a with | some o => some o | none => rg true G1 H a) = some o
        rw [upd_ne ne, sg]
        exact z
      refine ⟨.ref q, _, by rw [e1], .lst (s1 _ _ upd_same) (RdL.append (rs'.mono s1) (.cons (r1'.mono s2) .nil)), fun a o z => ?_, fun a o z => ?_⟩
      · have z' : (match upd Sg q (.lst (vs ++ [u])) a with | some o => some o | none => rg true G1 H a) = some o := z
        by_cases ne : a = q
        · subst ne
          rw [upd_same] at z' ⊢
          exact z'
        · rw [upd_ne ne] at z' ⊢
          cases y : Sg a with
          | none =>
            rw [y] at z'
            exact S1.bs.gh a o (rg_sub a o z')
          | some t =>
            rw [y] at z'
            cases z'
            have ha := g1 _ _ y
            have nn : a ≠ P.s ∧ a ≠ P.l := by
              rcases m1 _ _ y with ⟨ys, w⟩ | w
              · obtain ⟨_, ns, a1, b1, c1, e1, e2, _⟩ := S.bs.st
                exact ⟨fun w2 => (by rw [w2, e1, w] at ha; cases ha), fun w2 => (by rw [w2, e2, w] at ha; cases ha)⟩
              · exact S.wk.s i a w
            exact L1.h _ _ ha nn.1 nn.2
      · have z' : (match upd Sg q (.lst (vs ++ [u])) a with | some o => some o | none => rg true G1 H a) = some o := z
        by_cases ne : a = q
        · subst ne
          exact .inr (.inl wq)
        · rw [upd_ne ne] at z'
          cases y : Sg a with
          | none =>
            rw [y] at z'
            have hn0 := new a o z'
            have h1 := S1.bs.gh a o (rg_sub a o z')
            cases o with
            | tup ys => exact .inl ⟨ys, rfl⟩
            | _ => exact .inr (.inr ⟨rfl, hn0, _, h1, fun ys w => by cases w⟩)
          | some t =>
            rw [y] at z'
            cases z'
            exact (m1 _ _ y).imp id .inl
    | _ => exact (show False from e).elim
  · exact e.elim
end
end DL

set_option maxHeartbeats 4000000
/-! DLU: an empty dict, comparisons in a chain, tuples joined, a new value of what is apart. -/
namespace DL
open PySem PySem.Spec PyProof.Rows L2
section
variable {X : Cx} {cl : Cls0} {N : List Str} {a b c ex : Expr} {pos p : Pos} {x : Str}
theorem xe_emp : PE X (.Dict [] [] pos) (tE cl fun _ n k => k (.dic [] [], true) n) :=
  pe_dnewK.imp fun σ H Q ⟨P, G0, H0, W, n, f, G, K, hc, S, e, h⟩ => fun q hq => by
    obtain ⟨a1, a2, a3, a4⟩ := fin_new (o := .dK []) S S Le.rfl' hq
    exact h _ _ e _ _ _ a1 a2 (.dic (vs := []) (a4 _) rfl .nil)
theorem xe_dctV {el : EvL} (hc : X.calm = true) (hg : Gl X "dict") (hm : X.mg "dict" = none) (ha : PE X a (tL cl el)) (pa : plainX a = true) :
    PE X (.Call (.Name "dict" p) [a] [] pos) (tE cl fun f n k => el f n fun xs b n1 => xs = [] ∧ k (.dic [] [], true) n1) := by
  refine (pe_callTy (call_dictP hc) hg hm PyProof.Rows.boot_dict (pa_cons ha pa_nil (star_cons pa [] X.env)) (by decide) (by decide) (star_cons pa [] X.env) rfl).imp fun σ H Q ⟨P, G0, H0, W, n, f, G, K, hcl, S, e, h⟩ => ?_
  refine ⟨P, G0, H0, W, n, f, G, fun (x : List D × Bool) n1 => x.1 = [] ∧ K (.dic [] [], true) n1, hcl, S, e, fun x n1 ⟨hx, kn⟩ v G1 H1 S1 L1 r1 => ?_⟩
  obtain ⟨q, vs, rfl, hn, hgq, hh, r⟩ := r1
  rw [hx] at r
  cases r
  refine ⟨q, [], [], rfl, SqL.of hh, .nil, fun d hd => ?_⟩
  obtain ⟨a1, a2, a3, a4⟩ := fin_new (o := .dK []) S S1 L1 hd
  exact h _ _ kn _ _ _ a1 a2 (.dic (vs := []) (a4 _) rfl .nil)
theorem xe_catT {ea eb : Ev DB} (ha : PE X a (tE cl ea)) (hb : PE X b (tE cl eb)) : PE X (.BinOp a .Add b pos) (tE cl fun f n k => ea f n fun x n1 => eb f n1 fun y n2 => match x, y with
    | (.tup xs, b), (.tup ys, c) => xs ≠ [] ∧ ys ≠ [] ∧ xs.length + ys.length ≤ sizeLine ∧ k (.tup (xs ++ ys), b && c) n2
    | _, _ => False) := by
  refine (pe_op op_catT ha hb).imp fun σ H Q ⟨P, G0, H0, W, n, f, G, K, hc, S, e, h⟩ => TR.two kE kE hc S e fun x y n2 hk v u G2 H2 S2 L2 r1 r2 => ?_
  obtain ⟨x, bx⟩ := x
  obtain ⟨y, by'⟩ := y
  have r1' : RdD P (rg bx G2 H0) v x := r1
  have r2' : RdD P (rg by' G2 H0) u y := r2
  cases r1' with
  | tup h1 q1 =>
    cases r2' with
    | tup h2 q2 =>
      obtain ⟨n1, n2', hl, hk⟩ := hk
      refine ⟨_, _, _, _, rfl, rfl, SqT.of (S2.bs.gh _ _ (rg_sub _ _ h1)), SqT.of (S2.bs.gh _ _ (rg_sub _ _ h2)), fun z => ?_, by rw [q1.length, q2.length]; exact hl, fun z => ?_, fun _ p hp => ?_⟩
      · have := q1.length
        rw [z] at this
        exact n1 (List.eq_nil_of_length_eq_zero this.symm)
      · have := q2.length
        rw [z] at this
        exact absurd (List.eq_nil_of_length_eq_zero this.symm) n2'
      · obtain ⟨a1, a2, a3, a4⟩ := fin_new S S2 L2 hp
        exact h _ _ hk _ _ _ a1 a2 (.tup (a4 _) (RdL.append ((q1.mono (rg_le fun z => (Bool.and_eq_true_iff.mp z).1)).mono (rg_mono a3)) ((q2.mono (rg_le fun z => (Bool.and_eq_true_iff.mp z).2)).mono (rg_mono a3))))
    | _ => exact (show False from hk).elim
  | _ => exact (show False from hk).elim
/-- a op b op' c -/
theorem xt_tch {op op' : CmpOp} {ea eb ec : Ev DB} (hu : X.A.units + 64 < cLine) (ha : PE X a (tO cl ea)) (hb : PE X b (tO cl eb)) (hc : PE X c (tO cl ec)) (hm : lastMarks [op, op'] [b, c] = false) :
    PT X (.Compare a [op, op'] [b, c] pos) (tT cl fun f n k => ea f n fun x n1 => eb f n1 fun y n2 => cmpD op x.1 y.1 fun c1 => if c1 = true then ec f n2 fun z n3 => cmpD op' y.1 z.1 fun c2 => k c2 n3 else k false n2) := by
  obtain ⟨r, hr, hh⟩ := cmp_rule hu op
  obtain ⟨r', hr', hh'⟩ := cmp_rule hu op'
  exact (pt_chain hr hr' ha hb hc hm).imp fun σ H Q ⟨P, G0, H0, W, n, f, G, K, hcl, S, e, h⟩ =>
    TR.two kO kO hcl S e fun x y n2 hk v u G2 H2 S2 L2 r1 r2 => hh P _ _ _ _ _ _ _ _ _ v u x y _ _ S2 r1 r2 hk fun c1 kc => ⟨c1, rfl, by
      cases c1 with
      | false => exact ⟨false, rfl, h _ _ kc _ G2 H2 S2 L2 rfl⟩
      | true =>
        refine ⟨P, G0, H0, W, n2, f, G2, _, hcl, S2, kc, fun z n3 hz w G3 H3 S3 L3 r3 => ?_⟩
        have r2' := relO_mono (H2 := H2) S2 L3 r2
        exact hh' P _ _ _ _ _ _ _ _ _ u w y z _ _ S3 r2' r3 hz fun c2 kc2 => ⟨c2, rfl, h _ _ kc2 _ G3 H3 S3 (Le.trans S.bs S2.bs.st L2 L3) rfl⟩⟩
/-- a new value, kept -/
theorem xs_asgV {ea : Ev DB} {i : Nat} {sc : Scope} {px : Pos} (so : StoreOk X N sc) (hl : locN N sc i x = true) (h : PE X ex (tE cl ea)) (hs : swapsWith ex (some (.Name x px)) pos.line X.env = pure false) :
    PS X (.Assign [.Name x px] ex pos) (tS cl fun K f n => ea (view f) n fun x n1 => x.2 = true ∧ K.nx (f.set i (.v x.1 true)) n1) := by
  obtain ⟨h1, h2⟩ := locN_of hl
  obtain ⟨e, nd, hso⟩ := so
  obtain ⟨a1, a2⟩ := hso x h2
  refine (ps_set (by rw [e]; exact nd) (by rw [e]; exact h1) a1 h hs a2).imp fun D σ H ⟨P, G0, H0, W, n, f, G, K, hc, S, ev, hn, hr, hct⟩ => ?_
  refine ⟨P, allG P H, H, fun _ _ => False, n, view f, allG P H, _, hc, viewR S, ev, fun r n1 ⟨hb, kn⟩ v G1 H1 S1 L1 r1 => ?_⟩
  have gh : Sub G H1 := fun a o q => L1.h a o (S.bs.gh a o q) (S.gne q).1 (S.gne q).2
  have r1' : RdD P (rg r.2 G1 H) v r.1 := r1
  rw [hb] at r1'
  have new : ∀ a o, rg true G1 H a = some o → H a = none := fun a o z => by
    cases q : H a with
    | none => rfl
    | some u =>
      have z' : (match H a with | none => G1 a | some _ => none) = some o := z
      rw [q] at z'; cases z'
  have old : ∀ a, H a ≠ none → rg true G1 H a = none := fun a q => by
    cases z : rg true G1 H a with
    | none => rfl
    | some o => exact absurd (new a o z) q
  have s1 : Sub G (fun a => match G a with | some o => some o | none => rg true G1 H a) := fun a o z => by
    show (match G a with | some o => some o | none => rg true G1 H a) = some o
    rw [z]
  have L2 : Le P G H (fun a => match G a with | some o => some o | none => rg true G1 H a) H1 := ⟨s1, fun a q => .inl (by
    show (match G a with | some o => some o | none => rg true G1 H a) = G a
    cases z : G a with
    | none => exact old a q
    | some o => rfl), L1.h⟩
  have gh2 : Sub (fun a => match G a with | some o => some o | none => rg true G1 H a) H1 := fun a o z => by
    have z' : (match G a with | some o => some o | none => rg true G1 H a) = some o := z
    cases q : G a with
    | none =>
      rw [q] at z'
      exact S1.bs.gh a o (rg_sub a o z')
    | some u =>
      rw [q] at z'
      cases z'
      exact gh a o q
  have S2 := S.le L2 gh2 S1.bs.st
  have r2 : RdD P (rg true (fun a => match G a with | some o => some o | none => rg true G1 H a) H0) v r.1 := r1'.mono fun a o z => by
    have hq := new a o z
    have gn : G a = none := gno S hq
    have hn0 := S.bs.h0n hq
    show (match H0 a with | none => (match G a with | some o => some o | none => rg true G1 H a) | some _ => none) = some o
    rw [hn0, gn]
    exact z
  exact hn _ _ kn _ _ _ H1 s1 (S2.setV (i := i) r2)
end
theorem PE.orE {X : Cx} {ex : Expr} {t1 t2 : TE} (h1 : PE X ex t1) (h2 : PE X ex t2) : PE X ex (fun σ H Q => t1 σ H Q ∨ t2 σ H Q) :=
  ⟨fun pins s σ H Q I h => h.elim (fun h => h1.run pins s σ H Q I h) fun h => h2.run pins s σ H Q I h⟩
/-- over an empty dict a list comprehension has no turn -/
theorem lc_none {X : Cx} {cl : Cls0} {elt tg : Expr} {ifs : List Expr} {scope : Scope} {own : List (Str × Nat)} {pos px : Pos} {x : Str} {i : Nat} (hc : X.calm = true) (hN : X.N.Nodup) (h1 : X.N[i]? = some x) (hv : Vis X.env.scope x) (hd : (x == ("__debug__" : Str)) = false) (hcd : (x == ("__classdict__" : Str)) = false) (ok : BlkOk X.N X.env.scope scope own) (hs : ∀ y, foldedSetIterable (.Name x px) X.env y = pure y)
    {t : TE} (ht : ∀ σ H Q, t σ H Q → ∃ (P : Pt) (G0 H0 : Hp) (W : Nat → Addr → Prop) (n : Nat) (f : Fr) (G : Hp) (K : List D → Bool → Nat → Prop), P.cl = cl ∧ SR P G0 H0 W n σ f G H ∧ (∃ b, f[i]? = some (.v (.dic [] []) b)) ∧ K [] true n ∧ ∀ xs b n1, K xs b n1 → ∀ v G1 H1, SR P G0 H0 W n1 σ f G1 H1 → Le P G H G1 H1 → relL P H H0 G1 H1 v (xs, b) → Q v H1) :
    PE X (.ListComp elt [⟨tg, .Name x px, ifs, 0⟩] scope pos) t := by
  have nvE : ∀ {Y : Cx} {e : Expr}, PE Y e (fun _ _ _ => False) := fun {Y e} => ⟨fun _ _ _ _ _ _ h => h.elim⟩
  refine (pe_lock (pe_lc (g := fun _ _ _ _ => False) (tt := fun _ _ _ => False) (te := fun _ _ _ => False) hc hN (pi_keys (pe_var h1 hv hd hcd)) ok (fun s H C cl fp => ⟨by intros; rename_i h; exact (show False from h).elim⟩) (fun s H C cl fp => ⟨by intros; rename_i h; exact (show False from h).elim⟩) (fun s H C cl fp => nvE) hs)).imp fun σ H Q w => ?_
  obtain ⟨P, G0, H0, W, n, f, G, K, hcl, S, ⟨b, hf⟩, k0, h⟩ := ht σ H Q w
  obtain ⟨v, e1, r1⟩ := S.sl i _ hf
  cases r1 with
  | dic hg hl hr =>
    rename_i d vs
    have hd := S.bs.gh _ _ (rg_sub _ _ hg)
    refine ⟨d, _, hd, trivial, fun od => ⟨_, slot_at e1, d, od, rfl, .inl ⟨_, upd_same, fun D hD => ?_⟩⟩⟩
    have ne : D ≠ d := fun z => by rw [z, upd_same] at hD; cases hD
    have hD' : H D = none := by rw [upd_ne ne] at hD; exact hD
    have back : upd (upd (upd H d (.frz od (.dK (([] : List Key).zip vs)))) D (.lst [])) d (.dK (([] : List Key).zip vs)) = upd H D (.lst []) := by
      funext z
      by_cases hz : z = d
      · subst hz
        rw [upd_same, upd_ne (fun y => ne y.symm), hd]
      · rw [upd_ne hz]
        by_cases hy : z = D
        · subst hy; rw [upd_same, upd_same]
        · rw [upd_ne hy, upd_ne hz, upd_ne hy]
    refine ⟨fun j m H3 => j = 0 ∧ H3 = upd (upd H d (.frz od (.dK (([] : List Key).zip vs)))) D (.lst []), ⟨0, rfl, rfl⟩, fun j m H3 ⟨e2, e3⟩ => .inl ⟨?_, ?_⟩⟩
    · subst e3
      exact ⟨by rw [upd_ne (fun y => ne y.symm), upd_same], Nat.zero_le _⟩
    · subst e3
      refine ⟨by rw [upd_ne (fun y => ne y.symm), upd_same], ?_⟩
      rw [back]
      have g1 : G D = none := gno S hD'
      exact h [] true n k0 _ G _ (S.newO hD') (Le.own hD') ⟨D, [], rfl, hD', g1, upd_same, .nil⟩
theorem empC_of {i : Nat} {f : Fr} {e : XE} {ts own : List Nat} {c : XTs} (h : empC (.comp e ts own (.over (.ex (.var i))) c) f = true) : ∃ b, f[i]? = some (.v (.dic [] []) b) := by
  have h' : (match f[i]? with
    | some (.v (.dic [] []) _) => true
    | _ => false) = true := h
  split at h'
  · rename_i b hf
    exact ⟨b, hf⟩
  · cases h'
theorem empC_shape {l : XL} {f : Fr} (h : empC l f = true) : ∃ el ts own i q, l = .comp el ts own (.over (.ex (.var i))) q := by
  cases l with
  | comp el ts own it q =>
    cases it with
    | over o =>
      cases o with
      | ex e =>
        cases e with
        | var i => exact ⟨_, _, _, i, _, rfl⟩
        | _ => cases h
      | own i => cases h
    | _ => cases h
  | _ => cases h
end DL

set_option maxHeartbeats 4000000
/-! DLI: own classes: made, asked, read, their methods. -/
namespace DL
open PySem PySem.Spec PyProof.Rows L2

/-- what is known of an own class -/
structure ClF (K : PySem.W.Frag) (C : Addr) : Prop where
  cls : Cls K C
  ha : PySem.W.findIn K (.ref C) "__class__" = some (some (.builtin "object.__class__"))
  hn : PySem.W.specialIn K (.builtin "object.__class__") "__get__" = some (some (.builtin "getset_descriptor.__get__"))
  htk : PySem.W.takesIn K (.builtin "object.__class__") = some true
  hm : PySem.W.mroIn K C (.type "object") = some true
  kit : ∀ T ∈ (["NoneType", "bool", "int", "str", "list", "tuple", "dict"] : List String), PySem.W.kitOne K (.type T) (.ref C) = some false
def clB (K : PySem.W.Frag) (C : Addr) : Bool := decide (PySem.W.findIn K (.ref C) "__class__" = some (some (.builtin "object.__class__"))) &&
  (decide (PySem.W.specialIn K (.builtin "object.__class__") "__get__" = some (some (.builtin "getset_descriptor.__get__"))) && (decide (PySem.W.takesIn K (.builtin "object.__class__") = some true) && (decide (PySem.W.mroIn K C (.type "object") = some true) &&
  (["NoneType", "bool", "int", "str", "list", "tuple", "dict"] : List String).all fun T => decide (PySem.W.kitOne K (.type T) (.ref C) = some false))))
theorem clF_of {K : PySem.W.Frag} {C : Addr} (c : Cls K C) (h : clB K C = true) : ClF K C := by
  unfold clB at h
  obtain ⟨h1, h⟩ := Bool.and_eq_true_iff.mp h
  obtain ⟨h2, h⟩ := Bool.and_eq_true_iff.mp h
  obtain ⟨h3, h⟩ := Bool.and_eq_true_iff.mp h
  obtain ⟨h4, h5⟩ := Bool.and_eq_true_iff.mp h
  exact ⟨c, of_decide_eq_true h1, of_decide_eq_true h2, of_decide_eq_true h3, of_decide_eq_true h4, fun T hT => of_decide_eq_true (List.all_eq_true.mp h5 T hT)⟩
/-- a class of the text: its fields' names -/
def ClC (X : Cx) (cl : Cls0) (c : Str) (ns : List Str) : Prop := ∃ C, cl c = some (C, ns) ∧ ns.Nodup ∧ ClF X.K C ∧ (∀ f ∈ ns, NoAttr X.K C f) ∧ X.mg c = some (.ref C)
theorem lookup_zip {ns : List Str} {vs : List V} {i : Nat} {f : Str} {v : V} (nd : ns.Nodup) (h1 : ns[i]? = some f) (h2 : vs[i]? = some v) : (ns.zip vs).lookup f = some v := by
  induction ns generalizing vs i with
  | nil => cases h1
  | cons n ns ih =>
    cases vs with
    | nil => cases h2
    | cons w vs =>
      rw [List.zip_cons_cons, List.lookup_cons]
      cases i with
      | zero =>
        cases h1; cases h2
        simp
      | succ i =>
        have h1' : ns[i]? = some f := h1
        have hm := List.mem_of_getElem? h1'
        have ne : f ≠ n := fun z => (List.nodup_cons.mp nd).1 (by rw [← z]; exact hm)
        rw [show (f == n) = false from beq_eq_false_iff_ne.mpr ne]
        exact ih (List.nodup_cons.mp nd).2 h1' h2
theorem lookup_none {ns : List Str} {vs : List V} {f : Str} (h : f ∉ ns) : (ns.zip vs).lookup f = none := by
  induction ns generalizing vs with
  | nil => rfl
  | cons n ns ih =>
    cases vs with
    | nil => rfl
    | cons w vs =>
      rw [List.zip_cons_cons, List.lookup_cons]
      rw [show (f == n) = false from beq_eq_false_iff_ne.mpr fun z => h (by rw [z]; exact List.mem_cons_self)]
      exact ih fun z => h (List.mem_cons_of_mem _ z)
theorem putF_new {f : Str} {v : V} : ∀ {fs : List (Str × V)}, (∀ q ∈ fs, q.1 ≠ f) → putF f v fs = fs ++ [(f, v)]
  | [], _ => rfl
  | (g, x) :: r, h => by
    unfold putF
    rw [if_neg (h _ List.mem_cons_self), putF_new fun q hq => h q (List.mem_cons_of_mem _ hq)]
    rfl
section
variable {X : Cx} {cl : Cls0} {p pos ap : Pos} {a c : Expr}
/-- a.f -/
theorem xe_att {ea : Ev DB} {x : Str} {ns : List Str} {i : Nat} {f : Str} (hC : ClC X cl x ns) (hi : ns[i]? = some f) (ha : PE X a (tE cl ea)) (hb : attributeBase a f X.env (eval a X.env) = eval a X.env) :
    PE X (.Attribute a f pos) (tE cl fun fr n k => ea fr n fun y n1 => match y with
      | (.ins c2 fs, b) => c2 = x ∧ ∃ d, fs[i]? = some d ∧ k (d, fl b d) n1
      | _ => False) := by
  obtain ⟨C, hc, nd, cF, na, _⟩ := hC
  refine (pe_fld (pos := pos) (f := f) ha hb).imp fun σ H Q ⟨P, G0, H0, W, n, fr, G, K, hcl, S, e, h⟩ => TR.one hcl S e fun y n1 hy v G1 H1 S1 L1 r1 => ?_
  obtain ⟨d, b⟩ := y
  cases d with
  | ins c2 fs =>
    obtain ⟨rfl, d, hd, kd⟩ := hy
    have r1' : RdD P (rg b G1 H0) v (.ins c2 fs) := r1
    cases r1' with
    | ins hc2 e2 l r =>
      rw [hcl, hc] at hc2
      cases hc2
      obtain ⟨w, hw, rw'⟩ := r.get hd
      exact ⟨_, _, _, _, w, rfl, S1.bs.gh _ _ (rg_sub _ _ e2), cF.cls, na f (List.mem_of_getElem? hi), lookup_zip nd hi hw, h _ _ kd w G1 H1 S1 L1 (RdD.fl rw')⟩
  | _ => exact (show False from hy).elim
/-- isinstance(a, C) -/
theorem xe_isc {ea : Ev DB} {x : Str} {ns : List Str} {q : Pos} (hC : ClC X cl x ns) (hg : Gl X "isinstance") (hm : X.mg "isinstance" = none) (gx : Gl X x) (dx : (x == ("__debug__" : Str)) = false) (ha : PE X a (tE cl ea)) (pa : plainX a = true) :
    PE X (.Call (.Name "isinstance" p) [a, .Name x q] [] pos) (tE cl fun f n k => ea f n fun y n1 => ∃ r, isC y.1 x = some r ∧ k (.bl r, true) n1) := by
  obtain ⟨C, hc, nd, cF, na, hx⟩ := hC
  refine (pe_callB call_isi hg hm boot_isi (pa_cons ha (pa_cons (pe_glob gx hx (v := .ref C) rfl dx) pa_nil (star_cons rfl [] X.env)) (star_cons pa [.Name x q] X.env)) (by decide) (by decide) (star_cons pa [.Name x q] X.env) (star_plain (es := [.Name x q]) rfl pos X.env)).imp fun σ H Q ⟨P, G0, H0, W, m, f, G, K, hcl, S, e, h⟩ => TR.one hcl S e fun y n1 ⟨r, hr, kr⟩ v G1 H1 S1 L1 r1 => ?_
  have key : ∀ t b, TyX X.K H1 v t → PySem.W.kitOne X.K t (.ref C) = some b → r = b → rIsi X.K [v, .ref C] H1 Q := fun t b ty kt e => ⟨v, .ref C, t, .ref C, b, rfl, .own C, ty, kt, h (.bl b, true) _ (e ▸ kr) (.bl b) G1 H1 S1 L1 (.bl b)⟩
  obtain ⟨d, b⟩ := y
  have ty : d ≠ .strm → (∀ c fs, d ≠ .ins c fs) → TyX X.K H1 v (.type d.ty) := fun h2 h1 => tyX_of (fun a o z => S1.bs.gh a o (rg_sub a o z)) (show RdD P (rg b G1 H0) v d from r1) h1 h2
  cases d with
  | ins c2 fs =>
    have r1' : RdD P (rg b G1 H0) v (.ins c2 fs) := r1
    cases r1' with
    | ins hc2 e2 l rr =>
      rename_i a2 C2 dx2 ns2 vs2
      have hr' : (if c2 = x then some true else none) = some r := hr
      split at hr'
      · rename_i hcx
        subst hcx
        rw [hcl, hc] at hc2
        cases hc2
        exact key (.ref C) true (.base (.ins (S1.bs.gh _ _ (rg_sub _ _ e2)) cF.cls cF.ha cF.hn cF.htk cF.hm)) (by unfold PySem.W.kitOne; rw [if_pos (beq_self_eq_true _)]) (Option.some.inj hr').symm
      · cases hr'
  | strm => cases hr
  | non => exact key _ false (ty (by simp) (by simp)) (cF.kit _ (by simp [D.ty])) (Option.some.inj hr).symm
  | bl _ => exact key _ false (ty (by simp) (by simp)) (cF.kit _ (by simp [D.ty])) (Option.some.inj hr).symm
  | int _ => exact key _ false (ty (by simp) (by simp)) (cF.kit _ (by simp [D.ty])) (Option.some.inj hr).symm
  | str _ => exact key _ false (ty (by simp) (by simp)) (cF.kit _ (by simp [D.ty])) (Option.some.inj hr).symm
  | lst _ => exact key _ false (ty (by simp) (by simp)) (cF.kit _ (by simp [D.ty])) (Option.some.inj hr).symm
  | tup _ => exact key _ false (ty (by simp) (by simp)) (cF.kit _ (by simp [D.ty])) (Option.some.inj hr).symm
  | dic _ _ => exact key _ false (ty (by simp) (by simp)) (cF.kit _ (by simp [D.ty])) (Option.some.inj hr).symm
  | dit _ _ => exact key _ false (ty (by simp) (by simp)) (cF.kit _ (by simp [D.ty])) (Option.some.inj hr).symm
/-- self.f = e -/
theorem xs_setF {ea : Ev DB} {x c0 g : Str} {i : Nat} {px : Pos} {cs : List Str} {v : Expr} (hN : X.N[i]? = some x) (hv : Vis X.env.scope x) (hd : (x == ("__debug__" : Str)) = false) (hcd : (x == ("__classdict__" : Str)) = false) (hC : ClC X cl c0 cs) (hg : g ∈ cs) (ha : PE X v (tE cl ea))
    (hs : swapsWith v (some (.Attribute (.Name x px) g ap)) pos.line X.env = pure false) :
    PS X (.Assign [.Attribute (.Name x px) g ap] v pos) (tS cl fun K f n => match f[i]? with
      | some (.o c ns xs b) => c = c0 ∧ ea f n fun y n1 => g ∉ ns ∧ ns.length < 900 ∧ ns.length = xs.length ∧ K.nx (f.set i (.o c (ns ++ [g]) (xs ++ [y.1]) (b && y.2))) n1
      | _ => False) := by
  obtain ⟨C, hc, nd, cF, na, _⟩ := hC
  refine (ps_fld (pe_var (pos := px) hN hv hd hcd) ha hs).imp fun D σ H ⟨P, G0, H0, W, n, f, G, K, hcl, S, e, hn, hr, hct⟩ => ?_
  dsimp only at e
  split at e
  · rename_i c ns xs b hf
    obtain ⟨rfl, e⟩ := e
    refine ⟨P, G0, H0, W, n, f, G, _, hcl, S, e, fun y n1 ⟨h1, h2, h3, kn⟩ w G1 H1 S1 L1 r1 => ?_⟩
    obtain ⟨q, C2, dx, cs2, vs, e1, wq, ⟨hc2, hme⟩, hq, l, r⟩ := S1.sl i _ hf
    rw [hcl, hc] at hc2
    cases hc2
    have e1' := slot_at e1
    have ll : (ns.zip vs).length = ns.length := by rw [List.length_zip, l, Nat.min_self]
    have hp : putF g w (ns.zip vs) = (ns ++ [g]).zip (vs ++ [w]) := by
      rw [putF_new fun q hq z => h1 (by rw [← z]; exact (List.of_mem_zip (show (q.1, q.2) ∈ ns.zip vs from hq)).1), List.zip_append l]
      rfl
    refine ⟨_, e1', q, C, dx, ns.zip vs, rfl, hq, cF.cls, na g hg, by rw [ll]; omega, ?_⟩
    rw [hp]
    refine hn _ _ kn W σ G1 _ L1.g (S1.putOwn wq hq (fun _ z => by cases z) (fun _ z => by cases z) ?_)
    refine ⟨q, C, dx, cs, vs ++ [w], by rw [e1], wq, ⟨by rw [hcl]; exact hc, hme⟩, upd_same, by simp [l], RdL.append (r.mono (rg_le fun z => (Bool.and_eq_true_iff.mp z).1)) (.cons (RdD.mono (rg_le fun z => (Bool.and_eq_true_iff.mp z).2) (show RdD P (rg y.2 G1 H0) w y.1 from r1)) .nil)⟩
  · exact e.elim
end
/-! ### methods -/
section
variable {X : Cx} {CX : CXT} {cl : Cls0} {k : Nat} {f C : Addr} {fd : FuncData} {ps : List Str} {sp : Sp} {E : XK} {m : Str} {pos apos : Pos} {e o : Expr} {es : List Expr} {ta : TE} {t : TA}
theorem pe_methG {pl : Sem Bool} (he : PE X o ta) (c : Cls X.K C) (hm : Meth X.K C m f) (F : FnG X.prog X.w X.K X.mg X.base CX k f ps fd sp) (gd : X.A.guards = some []) (hr : Room k X.A) (hb : Binds X.K fd ps []) (hx : Passes CX X E) (ha : PA X (e :: es) t)
    (hst : starEach (e :: es) X.env = (false, eval e X.env) :: starEach es X.env) (hpl : (backTo pos (starEach es X.env)).any (·.1) = false)
    (ht : eval (.Call (.Attribute o m apos) (e :: es) [] pos) X.env = (do
      let ov ← eval o X.env
      standAt apos.atName
      let (f, first) ← holding [ov] (getMethod ov m pl)
      callWith pos f first (backTo pos (starEach (e :: es) X.env)) (backToKw pos (keywordEach [] X.env)))) :
    PE X (.Call (.Attribute o m apos) (e :: es) [] pos) (tMeth C m sp [] E ta t) := by
  refine ⟨fun pins s σ H Q I h => ?_⟩
  refine PySem.W.methodCall_KW (pl := pl) (thn (he.run pins s σ H _ I h) fun u s1 ⟨x, H1, I1, rx, a, dx, fs, ex, ea, l, q⟩ => ?_) ht
  subst ex
  obtain rfl : u = Value.ref a := rx
  refine getmeth_ok I1 ea c hm l ?_
  refine PySem.W.callWith_K (first := [.ref a]) (h₀ := X.base) I.ok.mod.kin hm.kp (thn (ha.run pos pins s1 σ H1 _ I1 q) fun us s2 ⟨vs, H2, I2, r, q2⟩ => ⟨I2.kIn, ?_⟩) hst hpl
  have q' : sp (.ref a :: vs) H2 Q E := by rw [← List.append_nil vs]; exact q2
  have r' : Vals (.ref a :: vs) (.ref a :: us) := .cons rfl r
  have hl : (Value.ref a :: us).length = ps.length := r'.length.symm.trans (F.len _ _ _ _ q')
  have bt := hb s2 (.ref a :: us) I2.kIn (by rw [List.append_nil]; exact hl)
  rw [List.append_nil] at bt
  exact wpAny_call (runG F gd hr hx I2 bt r' q')
theorem pe_meth0G {pl : Sem Bool} (he : PE X o ta) (c : Cls X.K C) (hm : Meth X.K C m f) (F : FnG X.prog X.w X.K X.mg X.base CX k f ps fd sp) (gd : X.A.guards = some []) (hr : Room k X.A) (hb : Binds X.K fd ps []) (hx : Passes CX X E)
    (ht : eval (.Call (.Attribute o m apos) [] [] pos) X.env = (do
      let ov ← eval o X.env
      standAt apos.atName
      let (f, first) ← holding [ov] (getMethod ov m pl)
      callWith pos f first (backTo pos (starEach [] X.env)) (backToKw pos (keywordEach [] X.env)))) :
    PE X (.Call (.Attribute o m apos) [] [] pos) (tMeth C m sp [] E ta tNil) := by
  refine ⟨fun pins s σ H Q I h => ?_⟩
  refine PySem.W.methodCall_KW (pl := pl) (thn (he.run pins s σ H _ I h) fun u s1 ⟨x, H1, I1, rx, a, dx, fs, ex, ea, l, q⟩ => ?_) ht
  subst ex
  obtain rfl : u = Value.ref a := rx
  refine getmeth_ok I1 ea c hm l ?_
  have q' : sp [.ref a] H1 Q E := q
  have r' : Vals [V.ref a] [Value.ref a] := .cons rfl .nil
  have hl : [Value.ref a].length = ps.length := r'.length.symm.trans (F.len _ _ _ _ q')
  have bt := hb s1 [.ref a] I1.kIn (by rw [List.append_nil]; exact hl)
  rw [List.append_nil] at bt
  exact PySem.W.callWith_K0 (first := [.ref a]) I1.kIn hm.kp (wpAny_call (runG F gd hr hx I1 bt r' q'))
theorem base_eq {o : Expr} {m : Str} {env : Env} (h : baseOk o = true) (v : Sem Value) : attributeBase o m env v = v := by
  unfold attributeBase
  cases o with
  | Call g xs ks p =>
    cases g with
    | Name x q =>
      cases xs with
      | nil =>
        cases ks with
        | nil => exact absurd h Bool.false_ne_true
        | cons _ _ => rfl
      | cons _ _ => rfl
    | _ => rfl
  | Name _ _ => rfl
  | _ => exact absurd h Bool.false_ne_true
theorem meth_eval {o : Expr} {m : Str} {apos pos : Pos} {env : Env} {es : List Expr} (ho : baseOk o = true) (hl : (apos.endLine == pos.line) = true) (hp : (backTo pos (starEach es env)).any (·.1) = false) (hn : es.length < 30) :
    eval (.Call (.Attribute o m apos) es [] pos) env = (do
      let ov ← eval o env
      standAt apos.atName
      let (f, first) ← holding [ov] (getMethod ov m (do return (← importBound o env).getD true))
      callWith pos f first (backTo pos (starEach es env)) (backToKw pos (keywordEach [] env))) := by
  show (do
    let ov ← attributeBase o m env (eval o env)
    standAt apos.atName
    methodCall o m apos pos env ov (es.length + 0) (backTo pos (starEach es env)) (backToKw pos (keywordEach [] env))) = _
  rw [base_eq ho]
  have hf : methodCallForm (es.length + 0) (backTo pos (starEach es env)) (backToKw pos (keywordEach [] env)) = true := by
    unfold methodCallForm
    have h1 : (backTo pos (starEach es env)).all (!·.1) = true := by
      rw [List.all_eq_true]
      intro q hq
      have := List.any_eq_false.mp hp q hq
      simpa using this
    rw [h1]
    simp [keywordEach, backToKw, hn]
  unfold methodCall methodCallPos calleeOf
  rw [hf]
  simp only [Bool.not_true, Bool.false_or, hl, if_true, pure_bind]
/-- a method's facts -/
def FnCm (X : Cx) (cl : Cls0) (ev : List D → Nat → KE → Prop) (c m : Str) : Prop := ∃ (k : Nat) (fa : Addr) (fd : FuncData) (ps : List Str) (C : Addr) (ns : List Str), FnG X.prog X.w X.K X.mg X.base (fun _ _ _ _ _ _ => False) k fa ps fd (spF cl ev ps.length) ∧ Room k X.A ∧ Binds X.K fd ps [] ∧ (∀ ds n k, ev ds n k → ds.length = ps.length) ∧ Meth X.K C m fa ∧ cl c = some (C, ns) ∧ m ∉ ns ∧ Cls X.K C
theorem passF {X : Cx} {E : XK} : Passes (fun _ _ _ _ _ _ => False) X E := fun _ _ _ _ _ _ _ h => h.elim
theorem xe_meth {pl : Sem Bool} {ev : List D → Nat → KE → Prop} {ea : Ev DB} {el : EvL} {c : Str} (M : FnCm X cl ev c m) (gd : X.A.guards = some []) (he : PE X o (tE cl ea)) (ha : PA X (e :: es) (tA cl el)) (hp : (e :: es).all plainX = true)
    (ht : eval (.Call (.Attribute o m apos) (e :: es) [] pos) X.env = (do
      let ov ← eval o X.env
      standAt apos.atName
      let (f, first) ← holding [ov] (getMethod ov m pl)
      callWith pos f first (backTo pos (starEach (e :: es) X.env)) (backToKw pos (keywordEach [] X.env)))) :
    PE X (.Call (.Attribute o m apos) (e :: es) [] pos) (tE cl fun f n k => ea f n fun x n1 => match x.1 with
      | .ins c2 fs => c2 = c ∧ el f n1 fun xs _ n2 => ev (.ins c2 fs :: xs) n2 k
      | _ => False) := by
  obtain ⟨k, fa, fd, ps, C, ns, F, hr, hb, np, hm, hc, hmn, cC⟩ := M
  have hp' : plainX e = true ∧ es.all plainX = true := by rw [List.all_cons, Bool.and_eq_true] at hp; exact hp
  refine (pe_methG (E := fun _ _ _ => False) he cC hm F gd hr hb passF ha (star_cons hp'.1 es X.env) (star_plain hp'.2 pos X.env) ht).imp fun σ H Q ⟨P, G0, H0, W, n, f, G, K, hcl, S, e, h⟩ => TR.one hcl S e fun x n1 hx v G1 H1 S1 L1 r1 => ?_
  obtain ⟨d, b⟩ := x
  cases d with
  | ins c2 fs =>
    obtain ⟨rfl, hx⟩ := hx
    have r1' : RdD P (rg b G1 H0) v (.ins c2 fs) := r1
    have r1'' := r1'
    cases r1' with
    | ins hc2 e2 l rr =>
      rw [hcl, hc] at hc2
      cases hc2
      refine ⟨_, _, _, rfl, S1.bs.gh _ _ (rg_sub _ _ e2), lookup_none hmn, ?_⟩
      refine ⟨P, G0, H0, W, n1, f, G1, (fun (x : List D × Bool) n2 => ev (.ins c2 fs :: x.1) n2 K), hcl, S1, hx, fun xs n2 hk vs G2 H2 S2 L2 r2 => ?_⟩
      show spF cl ev ps.length (_ :: (vs ++ [])) H2 Q _
      rw [List.append_nil]
      have rl : RdL P (rg false G2 H0) (_ :: vs) (.ins c2 fs :: xs.1) := .cons (RdD.mono (fun a o z => L2.g a o (rg_sub a o z)) r1'') (RdL.mono rg_sub r2)
      exact spF_of hcl S2 rl (np _ _ _ hk) hk fun r n' hr v G' H' S' L' q => h r n' hr v G' H' S' (Le.trans S.bs S1.bs.st L1 (Le.trans S1.bs S2.bs.st L2 L')) q
  | _ => exact (show False from hx).elim
theorem xe_meth0 {pl : Sem Bool} {ev : List D → Nat → KE → Prop} {ea : Ev DB} {c : Str} (M : FnCm X cl ev c m) (gd : X.A.guards = some []) (he : PE X o (tE cl ea))
    (ht : eval (.Call (.Attribute o m apos) [] [] pos) X.env = (do
      let ov ← eval o X.env
      standAt apos.atName
      let (f, first) ← holding [ov] (getMethod ov m pl)
      callWith pos f first (backTo pos (starEach [] X.env)) (backToKw pos (keywordEach [] X.env)))) :
    PE X (.Call (.Attribute o m apos) [] [] pos) (tE cl fun f n k => ea f n fun x n1 => match x.1 with
      | .ins c2 fs => c2 = c ∧ ev [.ins c2 fs] n1 k
      | _ => False) := by
  obtain ⟨k, fa, fd, ps, C, ns, F, hr, hb, np, hm, hc, hmn, cC⟩ := M
  refine (pe_meth0G (E := fun _ _ _ => False) he cC hm F gd hr hb passF ht).imp fun σ H Q ⟨P, G0, H0, W, n, f, G, K, hcl, S, e, h⟩ => TR.one hcl S e fun x n1 hx v G1 H1 S1 L1 r1 => ?_
  obtain ⟨d, b⟩ := x
  cases d with
  | ins c2 fs =>
    obtain ⟨rfl, hx⟩ := hx
    have r1' : RdD P (rg b G1 H0) v (.ins c2 fs) := r1
    have r1'' := r1'
    cases r1' with
    | ins hc2 e2 l rr =>
      rw [hcl, hc] at hc2
      cases hc2
      refine ⟨_, _, _, rfl, S1.bs.gh _ _ (rg_sub _ _ e2), lookup_none hmn, ?_⟩
      exact spF_of (E := fun _ _ _ => False) hcl S1 (.cons r1'' .nil) (np _ _ _ hx) hx fun r n' hr v G' H' S' L' q => h r n' hr v G' H' S' (Le.trans S.bs S1.bs.st L1 L') q
  | _ => exact (show False from hx).elim
/-! ### new instances -/
theorem make_guards {A : Around} {C : Addr} {us : List Value} {kw : List (Str × Value)} : (A.under (.builtin "type.__call__" ⟨.ref C :: us, kw⟩)).guards = A.guards := by
  first | rfl | simp [Around.under, Code.weight, Code.isCreation, Code.isGuard, Code.isCaller, Code.frames, Code.isFrame, guardIds]
theorem run_makeG {pins : List (Addr × Obj)} {σ : L2.St} {H : Hp} {s : Shared} {Q : VK} {us : List Value} {vs : List V} (M : Mk X.K C f) (F : FnG X.prog X.w X.K X.mg X.base CX k f ps fd sp) (gd : X.A.guards = some []) (hr : Room (k + 1) X.A) (hb : Binds X.K fd ps [])
    (hx : Passes CX X E) (I : Inv X pins σ H s) (r : Vals vs us)
    (h : ∀ x dx, H x = none → H dx = none → dx ≠ x → sp (.ref x :: vs) (upd (upd H dx (.own x)) x (.ins C dx [])) (fun v H2 => v = .non ∧ Q (.ref x) H2) E) :
    wpAny (model X.prog X.w) X.A (call (.ref C) us) (EP X pins σ Q) X.xe s := by
  have hq := h (s.heap.objs.size + 1) s.heap.objs.size (I.hok.fresh (Nat.le_succ _)) (I.hok.fresh (Nat.le_refl _)) (Nat.ne_of_lt (Nat.lt_succ_self _))
  have I2 := Inv.made (C := C) I
  have r2 : Vals (V.ref (s.heap.objs.size + 1) :: vs) (Value.ref (s.heap.objs.size + 1) :: us) := .cons rfl r
  have hl : (Value.ref (s.heap.objs.size + 1) :: us).length = ps.length := by
    have e := r2.length
    rw [F.len _ _ _ _ hq] at e
    exact e.symm
  have bt := hb { s with heap := (s.heap.push PySem.W.emptyDict).push (PySem.W.instObj C s.heap.objs.size) } (Value.ref (s.heap.objs.size + 1) :: us) I2.kIn (by rw [List.append_nil]; exact hl)
  rw [List.append_nil] at bt
  refine wpAny_call (make_map (f := f) I.kIn M.makes M.init (beq_iff_eq.mp M.fn) (codeAny_mono (F.run (make_guards.trans gd) (hr.make C us []) (I2.env0.make C us []) bt r2 hq) fun r s' hq' => ?_))
  cases r with
  | error e => exact hx pins σ _ _ e s' I2 hq'
  | ok fl =>
    cases fl with
    | ret u =>
      obtain ⟨v, H', I3, rv, ev, q3⟩ := I2.after hq'
      subst ev
      exact ⟨rv, ⟨V.ref (s.heap.objs.size + 1), H', I3, rfl, q3⟩⟩
    | next => exact False.elim hq'
    | brk => exact False.elim hq'
    | cont => exact False.elim hq'
theorem pe_makeG {x : Str} {p : Pos} (M : Mk X.K C f) (F : FnG X.prog X.w X.K X.mg X.base CX k f ps fd sp) (gd : X.A.guards = some []) (hr : Room (k + 1) X.A) (hg : Gl X x) (hm : X.mg x = some (.ref C)) (hb : Binds X.K fd ps []) (hx : Passes CX X E)
    (ha : PA X (e :: es) t) (hdb : (x == ("__debug__" : Str)) = false) (he : starEach (e :: es) X.env = (false, eval e X.env) :: starEach es X.env) (hpl : (backTo pos (starEach es X.env)).any (·.1) = false) :
    PE X (.Call (.Name x p) (e :: es) [] pos) (tMake C sp [] E t) := by
  refine ⟨fun pins s σ H Q I h => ?_⟩
  refine wpAny_Call_Name_kw (ld_glob I hg hm ?_ hdb)
  refine PySem.W.callWith_K (h₀ := X.base) I.ok.mod.kin M.kp (thn (ha.run pos pins s σ H _ I h) fun us s1 ⟨vs, H1, I1, r, q⟩ => ⟨I1.kIn, ?_⟩) he hpl
  exact run_makeG M F gd hr hb hx I1 r fun x dx h1 h2 h3 => by
    have := q x dx h1 h2 h3
    rw [List.append_nil] at this
    exact this
/-- what an __init__ promises -/
def spI (cl : Cls0) (c : Str) (ev : List D → Nat → KE → Prop) (np : Nat) : Sp := fun vs H Q _ => ∃ (P : Pt) (G Hb : Hp) (n : Nat) (ds : List D) (K : KE) (x dx C : Addr) (cs : List Str) (ws : List V), P.cl = cl ∧ cl c = some (C, cs) ∧ vs = .ref x :: ws ∧ RdL P G ws ds ∧ ds.length + 1 = np ∧
  H = upd (upd Hb dx (.own x)) x (.ins C dx []) ∧ Hb x = none ∧ Hb dx = none ∧ dx ≠ x ∧ Sub G Hb ∧ Stm n P Hb ∧ G P.s = none ∧ G P.l = none ∧ ev ds n K ∧
  ∀ r n', K r n' → ∀ G' H', Le P G Hb G' H' → Sub G' H' → Stm n' P H' → RdD P (rg r.2 G' Hb) (.ref x) r.1 → Q .non H'
/-- a class's facts -/
def FnCk (X : Cx) (cl : Cls0) (ev : List D → Nat → KE → Prop) (c : Str) : Prop := ∃ (k : Nat) (C fa : Addr) (fd : FuncData) (ps : List Str) (cs : List Str), FnG X.prog X.w X.K X.mg X.base (fun _ _ _ _ _ _ => False) k fa ps fd (spI cl c ev ps.length) ∧ Room (k + 1) X.A ∧ Binds X.K fd ps [] ∧
  (∀ ds n k, ev ds n k → ds.length + 1 = ps.length) ∧ Mk X.K C fa ∧ cl c = some (C, cs) ∧ X.mg c = some (.ref C) ∧ 2 ≤ ps.length
theorem xe_new {ev : List D → Nat → KE → Prop} {el : EvL} {c : Str} {p : Pos} (M : FnCk X cl ev c) (gd : X.A.guards = some []) (hg : Gl X c) (hdb : (c == ("__debug__" : Str)) = false) (ha : PA X (e :: es) (tA cl el)) (hp : (e :: es).all plainX = true) :
    PE X (.Call (.Name c p) (e :: es) [] pos) (tE cl fun f n k => el f n fun ds _ n1 => ev ds n1 k) := by
  obtain ⟨k, C, fa, fd, ps, cs, F, hr, hb, np, M, hc, hm, _⟩ := M
  have hp' : plainX e = true ∧ es.all plainX = true := by rw [List.all_cons, Bool.and_eq_true] at hp; exact hp
  refine (pe_makeG (E := fun _ _ _ => False) M F gd hr hg hm hb passF ha hdb (star_cons hp'.1 es X.env) (star_plain hp'.2 pos X.env)).imp fun σ H Q ⟨P, G0, H0, W, n, f, G, K, hcl, S, e, h⟩ => TR.one (K := fun (x : List D × Bool) n1 => ev x.1 n1 K) hcl S e fun y n1 hy vs G1 H1 S1 L1 r1 => fun x dx hx hdx hne => ?_
  rw [List.append_nil]
  refine ⟨P, G1, H1, n1, y.1, K, x, dx, C, cs, vs, hcl, hc, rfl, RdL.mono rg_sub r1, np _ _ _ hy, rfl, hx, hdx, hne, S1.bs.gh, S1.bs.st, S1.bs.gs, S1.bs.gl, hy, fun r n' hr G' H' L' gh st q => ⟨rfl, ?_⟩⟩
  refine h r n' hr (.ref x) G' H' (S1.le L' gh st) (Le.trans S.bs S1.bs.st L1 L') ?_
  refine RdD.mono (fun a o z => ?_) q
  cases hb : r.2 with
  | false => rw [hb] at z; exact z
  | true =>
    rw [hb] at z
    have z' : (match H1 a with | none => G' a | some _ => none) = some o := z
    cases q2 : H1 a with
    | none =>
      rw [q2] at z'
      exact rg_at z' (S1.bs.h0n q2)
    | some u => rw [q2] at z'; cases z'
end
end DL

set_option maxHeartbeats 4000000
/-! DLV: sorted, list(range(..)). -/
namespace DL
open PySem PySem.Spec PyProof.Rows L2
theorem intsOf_eq : ∀ {xs : List D} {ns : List Int}, intsOf xs = some ns → xs = ns.map D.int
  | [], ns, h => by cases h; rfl
  | x :: xs, ns, h => by
    cases x with
    | int i =>
      unfold intsOf at h
      obtain ⟨ms, h1, h2⟩ := Option.map_eq_some_iff.mp h
      subst h2
      rw [intsOf_eq h1]; rfl
    | _ => cases h
section
variable {X : Cx} {cl : Cls0} {p pos : Pos} {a b : Expr}
theorem xl_srt {ea : Ev DB} (hg : Gl X "sorted") (hm : X.mg "sorted" = none) (ha : PE X a (tO cl ea)) (pa : plainX a = true) : PE X (.Call (.Name "sorted" p) [a] [] pos) (tL cl fun f n k => ea f n fun x n1 => match x with
    | (.lst xs, _) => ∃ ns, intsOf xs = some ns ∧ ∀ ms : List Int, ms.Perm ns → ms.Pairwise (· ≤ ·) → k (ms.map D.int) true n1
    | _ => False) := by
  refine (pe_callB cr_sortedI hg hm boot_sorted (pa_cons ha pa_nil (star_cons pa [] X.env)) (by decide) (by decide) (star_cons pa [] X.env) rfl).imp fun σ H Q ⟨P, G0, H0, W, n, f, G, K, hc, S, e, h⟩ => TR.one (K := fun x n1 => match x with
    | (.lst xs, _) => ∃ ns, intsOf xs = some ns ∧ ∀ ms : List Int, ms.Perm ns → ms.Pairwise (· ≤ ·) → K (ms.map D.int, true) n1
    | _ => False) hc S e fun x n1 hx v G1 H1 S1 L1 r1 => ?_
  obtain ⟨x, bx⟩ := x
  cases x <;> first
    | exact (show False from hx).elim
    | (obtain ⟨p1, vs, rfl, _, _, h1, r1⟩ := r1
       obtain ⟨ns, hn, hk⟩ := hx
       have e1 := intsOf_eq hn
       subst e1
       have e2 := r1.ints
       subst e2
       refine ⟨p1, ns, rfl, SqL.of h1, fun ms q pm sr hq => ?_⟩
       obtain ⟨a1, a2, a3⟩ := fin_own S S1 L1 hq (b := true) (RdL.ofInts ms)
       exact h (_, _) _ (hk ms pm sr) _ _ _ a1 a2 a3)
theorem rgD (i j : Int) : rgV i j = ((List.range (j - i).toNat).map fun (m : Nat) => i + (m : Int)).map V.int := by
  unfold rgV
  rw [List.map_map]; rfl
theorem xl_rng1 {ea : Ev DB} {p2 pos2 : Pos} (hcm : X.calm = true) (hg : Gl X "list") (hm : X.mg "list" = none) (hg2 : Gl X "range") (hm2 : X.mg "range" = none) (ha : PE X a (tE cl ea)) (pa : plainX a = true) :
    PE X (.Call (.Name "list" p) [.Call (.Name "range" p2) [a] [] pos2] [] pos) (tL cl fun f n k => ea f n fun x n1 => match x.1 with
    | .int j => (-(2 ^ 62) ≤ j ∧ j ≤ 2 ^ 24) ∧ k ((List.range j.toNat).map fun i => .int (i : Nat)) true n1
    | _ => False) := by
  refine (pe_listRg hcm hg hm (prg_1 hg2 hm2 ha (star_cons pa [] X.env)) rfl).imp fun σ H Q ⟨P, G0, H0, W, n, f, G, K, hc, S, e, h⟩ => TR.one (K := fun x n1 => match x.1 with
    | .int j => (-(2 ^ 62) ≤ j ∧ j ≤ 2 ^ 24) ∧ K ((List.range j.toNat).map fun i => .int (i : Nat), true) n1
    | _ => False) hc S e fun x n1 hx v G1 H1 S1 L1 r1 => ?_
  obtain ⟨x, bx⟩ := x
  cases x <;> first
    | exact (show False from hx).elim
    | (rename_i j
       obtain ⟨hj, hk⟩ := hx
       cases int_of r1
       refine ⟨j, rfl, ⟨by omega, by omega, by omega, by omega, by omega⟩, fun q hq => ?_⟩
       rw [rgD]
       obtain ⟨a1, a2, a3⟩ := fin_own S S1 L1 hq (b := true) (RdL.ofInts ((List.range (j - 0).toNat).map fun (m : Nat) => 0 + (m : Int)))
       refine h (_, _) _ hk _ _ _ a1 a2 ?_
       rw [show (List.range j.toNat).map (fun i => D.int (i : Nat)) = ((List.range (j - 0).toNat).map fun (m : Nat) => 0 + (m : Int)).map D.int from by rw [List.map_map, Int.sub_zero]; congr 1; funext m; show D.int m = D.int (0 + (m : Int)); rw [Int.zero_add]]
       exact a3)
theorem xl_rng2 {ea eb : Ev DB} {p2 pos2 : Pos} (hcm : X.calm = true) (hg : Gl X "list") (hm : X.mg "list" = none) (hg2 : Gl X "range") (hm2 : X.mg "range" = none) (ha : PE X a (tE cl ea)) (hb : PE X b (tE cl eb)) (pa : plainX a = true) (pb : plainX b = true) :
    PE X (.Call (.Name "list" p) [.Call (.Name "range" p2) [a, b] [] pos2] [] pos) (tL cl fun f n k => ea f n fun x n1 => eb f n1 fun y n2 => match x.1, y.1 with
    | .int i, .int j => (-(2 ^ 62) ≤ i ∧ i < 2 ^ 62 ∧ -(2 ^ 62) ≤ j ∧ j < 2 ^ 62 ∧ (j - i).toNat ≤ 2 ^ 24) ∧ k ((List.range (j - i).toNat).map fun (m : Nat) => .int (i + m)) true n2
    | _, _ => False) := by
  refine (pe_listRg hcm hg hm (prg_2 hg2 hm2 ha hb (star_cons pa [b] X.env) (star_cons pb [] X.env) (star_plain (es := [b]) (by rw [List.all_cons, pb]; rfl) _ _)) rfl).imp fun σ H Q ⟨P, G0, H0, W, n, f, G, K, hc, S, e, h⟩ => TR.two (K := fun x y n2 => match x.1, y.1 with
    | .int i, .int j => (-(2 ^ 62) ≤ i ∧ i < 2 ^ 62 ∧ -(2 ^ 62) ≤ j ∧ j < 2 ^ 62 ∧ (j - i).toNat ≤ 2 ^ 24) ∧ K ((List.range (j - i).toNat).map fun (m : Nat) => .int (i + m), true) n2
    | _, _ => False) kE kE hc S e fun x y n2 hx v u G2 H2 S2 L2 r1 r2 => ?_
  obtain ⟨x, bx⟩ := x
  obtain ⟨y, by'⟩ := y
  cases x <;> cases y <;> first
    | exact (show False from hx).elim
    | (rename_i i j
       obtain ⟨hj, hk⟩ := hx
       cases int_of r1
       cases int_of r2
       refine ⟨i, j, rfl, rfl, ⟨by omega, by omega, by omega, by omega, by omega⟩, fun q hq => ?_⟩
       rw [rgD]
       obtain ⟨a1, a2, a3⟩ := fin_own S S2 L2 hq (b := true) (RdL.ofInts ((List.range (j - i).toNat).map fun (m : Nat) => i + (m : Int)))
       refine h (_, _) _ hk _ _ _ a1 a2 ?_
       rw [show (List.range (j - i).toNat).map (fun (m : Nat) => D.int (i + m)) = ((List.range (j - i).toNat).map fun (m : Nat) => i + (m : Int)).map D.int from by rw [List.map_map]; rfl]
       exact a3)
end
end DL

set_option maxHeartbeats 8000000
/-! DL14: what the look finds is what the evaluator does. -/
namespace DL
open PySem PySem.Spec PyProof.Rows L2

/-- no exception leaves a function -/
def CXd : CXT := fun _ _ _ _ _ _ => False
theorem passD {X : Cx} {E : XK} : Passes CXd X E := fun _ _ _ _ _ _ _ h => h.elim
/-- a function that may be called -/
def FnCf (X : Cx) (cl : Cls0) (kws : List KwS) (g : Nat) (ev : List D → Nat → KE → Prop) (x : Str) : Prop := ∃ (k : Nat) (fa : Addr) (fd : FuncData) (ps : List Str), FnG X.prog X.w X.K X.mg X.base CXd k fa ps fd (spF cl ev ps.length) ∧ Room k X.A ∧ X.mg x = some (.ref fa) ∧
  PySem.W.keepIn X.K (.ref fa) = true ∧ Binds X.K fd ps [] ∧ (∀ ds n k, ev ds n k → ds.length = ps.length) ∧ ∀ ks m ord, (g, ks, m, ord) ∈ kws → KBinds X.K fd ps ks (gK m ks.length ord) (gK m ks.length ord)
def FnC (X : Cx) (cl : Cls0) (kws : List KwS) (g : Nat) (ev : List D → Nat → KE → Prop) (x : Str) : Prop := FnCf X cl kws g ev x ∨ (FnCk X cl ev x ∧ ∀ ks m ord, (g, ks, m, ord) ∉ kws) ∨ isDot x = true
def DrC (X : Cx) (cl : Cls0) : Prop := ∃ (k : Nat) (fa : Addr) (fd : FuncData) (ps : List Str), FnOk X.prog X.w X.K X.mg X.base CXd k fa fd ps (spDraw cl) ∧ Room k X.A ∧ X.mg "_law_draw" = some (.ref fa) ∧ PySem.W.keepIn X.K (.ref fa) = true ∧ Binds X.K fd ps []
def SpC (X : Cx) : Prop := ∃ (k : Nat) (fa : Addr) (fd : FuncData), FnOk X.prog X.w X.K X.mg X.base CXd k fa fd ["thing"] (spSpoil 10) ∧ Room k X.A ∧ X.mg "_law_spoilt" = some (.ref fa) ∧ PySem.W.keepIn X.K (.ref fa) = true ∧ Binds X.K fd ["thing"] []
/-- the stream may be made anew -/
def StC (X : Cx) (cl : Cls0) : Prop := (∃ (k : Nat) (fa : Addr) (fd : FuncData), FnOk X.prog X.w X.K X.mg X.base CXd k fa fd ["script"] (spStream X.K) ∧ Room k X.A ∧ X.mg "_law_stream" = some (.ref fa) ∧ PySem.W.keepIn X.K (.ref fa) = true ∧ Binds X.K fd ["script"] []) ∧
  ∀ a H, cl.ok a H → ∃ ns : List Int, SqL X.K H a (ns.map V.int)
def bltNames : List Str := ["len", "abs", "int", "sum", "all", "any", "max", "min", "tuple", "isinstance", "bool", "str", "list", "dict", "range", "enumerate", "zip", "repr", "sorted"]
structure Kx (cl : Cls0) (N fns : List Str) (kws : List KwS) (cf : Nat → List D → Nat → KE → Prop) (X : Cx) (sc : Scope) : Prop where
  hN : X.N = N
  nd : N.Nodup
  hsc : X.env.scope = sc
  kind : sc.kind = .function
  calm : X.calm = true
  mg : ∀ x ∈ bltNames, X.mg x = none
  hu : X.A.units + 64 < cLine
  gd : X.A.guards = some []
  call : ∀ g x, fns[g]? = some x → FnC X cl kws g (cf g) x
  draw : DrC X cl
  clsf : ∀ c ns, clsK c ns ∈ kws → ClC X cl c ns
  methf : ∀ g c m, methK g c m ∈ kws → FnCm X cl (cf g) c m
  spoil : spK ∈ kws → SpC X
  strc : StC X cl
section
variable {cl : Cls0} {N fns : List Str} {kws : List KwS} {cf : Nat → List D → Nat → KE → Prop}
theorem plainN_of {x : Str} (h : plainN x = true) : (x == ("__debug__" : Str)) = false ∧ (x == ("__classdict__" : Str)) = false := by
  unfold plainN at h
  obtain ⟨h1, _⟩ := Bool.and_eq_true_iff.mp h
  obtain ⟨h1, h2⟩ := Bool.and_eq_true_iff.mp h1
  exact ⟨by simpa using h1, by simpa using h2⟩
theorem visN_of {sc : Scope} {i : Nat} {x : Str} (h : visN N sc i x = true) : N[i]? = some x ∧ Vis sc x ∧ (x == ("__debug__" : Str)) = false ∧ (x == ("__classdict__" : Str)) = false := by
  unfold visN at h
  obtain ⟨h1, h2⟩ := Bool.and_eq_true_iff.mp h
  obtain ⟨h1, h3⟩ := Bool.and_eq_true_iff.mp h1
  refine ⟨of_decide_eq_true h1, ?_, plainN_of h2⟩
  split at h3
  · exact .inl (by assumption)
  · exact .inr (.inl (by assumption))
  · exact .inr (.inr (by assumption))
  · cases h3
theorem glN_of {sc : Scope} {x : Str} (h : glN sc x = true) : sc.names.lookup x = some .globalImplicit ∧ (x == ("__debug__" : Str)) = false := by
  unfold glN at h
  obtain ⟨h1, h2⟩ := Bool.and_eq_true_iff.mp h
  exact ⟨of_decide_eq_true h1, (plainN_of h2).1⟩
theorem Kx.gl {X : Cx} {sc : Scope} (c : Kx cl N fns kws cf X sc) {x : Str} (h : glN sc x = true) : Gl X x := by
  show X.env.scope.names.lookup x = _
  rw [c.hsc]; exact (glN_of h).1
theorem Kx.vis {X : Cx} {sc : Scope} (c : Kx cl N fns kws cf X sc) {x : Str} (h : Vis sc x) : Vis X.env.scope x := by rw [c.hsc]; exact h
/-- a block in it -/
theorem Kx.blk {X : Cx} {sc scope : Scope} (c : Kx cl N fns kws cf X sc) (hk : scope.kind = .function) (s : Shared) (H : Hp) (C : Addr) (cel : List (Str × Addr)) (fp : List Addr) :
    Kx cl N fns kws cf (X.blk s H scope (compEnvC scope cel C X.env) fp) (relS scope sc) where
  hN := c.hN
  nd := c.nd
  hsc := by show relabel scope X.env = relS scope sc; rw [← c.hsc]; rfl
  kind := hk
  calm := c.calm
  mg := c.mg
  hu := c.hu
  gd := c.gd
  call := c.call
  draw := c.draw
  clsf := c.clsf
  methf := c.methf
  spoil := c.spoil
  strc := c.strc
theorem storeBlk {X : Cx} {sc scope : Scope} (c : Kx cl N fns kws cf X sc) (s : Shared) (H : Hp) (C : Addr) (cel : List (Str × Addr)) (fp : List Addr) : StoreOk (X.blk s H scope (compEnvC scope cel C X.env) fp) N scope := by
  refine ⟨c.hN, c.nd, fun x h => ?_⟩
  have e : (compEnvC scope cel C X.env).scope = relS scope X.env.scope := rfl
  rcases h with h | h
  · have q : (compEnvC scope cel C X.env).scope.names.lookup x = some .local := by rw [e]; exact lookup_relS_keep (by decide) h
    exact ⟨.inl q, .inr q⟩
  · have q : (compEnvC scope cel C X.env).scope.names.lookup x = some .cell := by rw [e]; exact lookup_relS_keep (by decide) h
    exact ⟨.inr q, .inl (by show (scope.names.lookup x == some .cell) = true; rw [h]; rfl)⟩
theorem ownPairs_snd (own : List Nat) : (ownPairs N own).map (·.2) = own := by
  unfold ownPairs
  rw [List.map_map]
  exact List.map_id _
theorem ty_mg {X : Cx} (h : ∀ x ∈ bltNames, X.mg x = none) : ∀ n : String, (n == "int" || n == "bool" || n == "str" || n == "list" || n == "tuple" || n == "dict") = true → X.mg (PySem.Str.ofString n) = none := by
  intro n hn
  simp only [Bool.or_eq_true, beq_iff_eq] at hn
  refine h _ ?_
  rcases hn with ((((rfl | rfl) | rfl) | rfl) | rfl) | rfl <;> decide
/-! ### the shapes -/
mutual
theorem shE : ∀ (t : XE) {sc : Scope} {e : Expr}, chkE N fns kws t sc e = true → plainX e = true
  | .var _, sc, e, h => by unfold chkE at h; split at h <;> first | rfl | cases h
  | .int _, sc, e, h => by unfold chkE at h; split at h <;> first | rfl | cases h
  | .str _, sc, e, h => by unfold chkE at h; split at h <;> first | rfl | cases h
  | .bl _, sc, e, h => by unfold chkE at h; split at h <;> first | rfl | cases h
  | .non, sc, e, h => by unfold chkE at h; split at h <;> first | rfl | cases h
  | .bin .., sc, e, h => by unfold chkE at h; split at h <;> first | rfl | cases h
  | .neg _, sc, e, h => by unfold chkE at h; split at h <;> first | rfl | cases h
  | .cmp .., sc, e, h => by unfold chkE at h; split at h <;> first | rfl | cases h
  | .not _, sc, e, h => by unfold chkE at h; split at h <;> first | rfl | cases h
  | .andV _, sc, e, h => by unfold chkE at h; split at h <;> first | rfl | cases h
  | .orV _, sc, e, h => by unfold chkE at h; split at h <;> first | rfl | cases h
  | .ife .., sc, e, h => by unfold chkE at h; split at h <;> first | rfl | cases h
  | .idx .., sc, e, h => by unfold chkE at h; split at h <;> first | rfl | cases h
  | .nl l, sc, e, h => shL l (by unfold chkE at h; exact h)
  | .tup _, sc, e, h => by unfold chkE at h; split at h <;> first | rfl | cases h
  | .call .., sc, e, h => by unfold chkE at h; split at h <;> first | rfl | cases h
  | .kcall .., sc, e, h => by unfold chkE at h; split at h <;> first | rfl | cases h
  | .draw .., sc, e, h => by unfold chkE at h; split at h <;> first | rfl | cases h
  | .bi .., sc, e, h => by unfold chkE at h; split at h <;> first | rfl | cases h
  | .bi2 .., sc, e, h => by unfold chkE at h; split at h <;> first | rfl | cases h
  | .isi .., sc, e, h => by unfold chkE at h; split at h <;> first | rfl | cases h
  | .sc a, sc, e, h => shE a (by unfold chkE at h; exact h)
  | .sls .., sc, e, h => by unfold chkE at h; split at h <;> first | rfl | cases h
  | .rvs .., sc, e, h => by unfold chkE at h; split at h <;> first | rfl | cases h
  | .emp, sc, e, h => by unfold chkE at h; split at h <;> first | rfl | cases h
  | .dctV .., sc, e, h => by unfold chkE at h; split at h <;> first | rfl | cases h
  | .catT .., sc, e, h => by unfold chkE at h; split at h <;> first | rfl | cases h
  | .att .., sc, e, h => by unfold chkE at h; split at h <;> first | rfl | cases h
  | .meth .., sc, e, h => by unfold chkE at h; split at h <;> first | rfl | cases h
  | .isc .., sc, e, h => by unfold chkE at h; split at h <;> first | rfl | cases h
  | .tseg .., sc, e, h => by unfold chkE at h; split at h <;> first | rfl | cases h
  | .ixo .., sc, e, h => by unfold chkE at h; split at h <;> first | rfl | cases h
  | .rdw .., sc, e, h => by unfold chkE at h; split at h <;> first | rfl | cases h
  | .dsp .., sc, e, h => by unfold chkE at h; split at h <;> first | rfl | cases h
theorem shL : ∀ (t : XL) {sc : Scope} {e : Expr}, chkL N fns kws t sc e = true → plainX e = true
  | .lit _, sc, e, h => by unfold chkL at h; split at h <;> first | rfl | cases h
  | .cat .., sc, e, h => by unfold chkL at h; split at h <;> first | rfl | cases h
  | .rep .., sc, e, h => by unfold chkL at h; split at h <;> first | rfl | cases h
  | .sl .., sc, e, h => by unfold chkL at h; split at h <;> first | rfl | cases h
  | .rev _, sc, e, h => by unfold chkL at h; split at h <;> first | rfl | cases h
  | .of _, sc, e, h => by unfold chkL at h; split at h <;> first | rfl | cases h
  | .comp .., sc, e, h => by unfold chkL at h; split at h <;> first | rfl | cases h
  | .seg .., sc, e, h => by unfold chkL at h; split at h <;> first | rfl | cases h
  | .srt .., sc, e, h => by unfold chkL at h; split at h <;> first | rfl | cases h
  | .rngL1 .., sc, e, h => by unfold chkL at h; split at h <;> first | rfl | cases h
  | .rngL2 .., sc, e, h => by unfold chkL at h; split at h <;> first | rfl | cases h
end
theorem shO : ∀ (t : XO) {sc : Scope} {e : Expr}, chkO N fns kws t sc e = true → plainX e = true
  | .ex a, sc, e, h => shE a (by unfold chkO at h; exact h)
  | .own _, sc, e, h => by unfold chkO at h; split at h <;> first | rfl | cases h
theorem shEs : ∀ (ts : XEs) {sc : Scope} {es : List Expr}, chkEs N fns kws ts sc es = true → es.all plainX = true
  | .nil, sc, es, h => by unfold chkEs at h; split at h <;> first | rfl | cases h
  | .cons t ts, sc, es, h => by
    unfold chkEs at h
    split at h
    · rw [Bool.and_eq_true] at h
      rw [List.all_cons, shE t h.1, shEs ts h.2]; rfl
    · cases h
theorem setIt : ∀ (t : XI) {sc : Scope} {e : Expr}, chkI N fns kws t sc e = true → ∀ (env : Env) x, foldedSetIterable e env x = pure x := by
  intro t sc e h env x
  have pl : plainX e = true := by
    cases t with
    | over o => exact shO o (by unfold chkI at h; exact h)
    | rng1 _ => unfold chkI at h; split at h <;> first | rfl | cases h
    | rng2 _ _ => unfold chkI at h; split at h <;> first | rfl | cases h
    | rng3 _ _ => unfold chkI at h; split at h <;> first | rfl | cases h
    | dctk _ => unfold chkI at h; split at h <;> first | rfl | cases h
    | enum _ => unfold chkI at h; split at h <;> first | rfl | cases h
    | zip _ _ => unfold chkI at h; split at h <;> first | rfl | cases h
  cases e <;> first | rfl | exact absurd pl Bool.false_ne_true
end
end DL

set_option maxHeartbeats 8000000
/-! DL15: .. expressions. -/
namespace DL
open PySem PySem.Spec PyProof.Rows L2

theorem and2 {a b : Bool} (h : (a && b) = true) : a = true ∧ b = true := Bool.and_eq_true_iff.mp h
theorem and3 {a b c : Bool} (h : (a && b && c) = true) : a = true ∧ b = true ∧ c = true := by
  cases a <;> cases b <;> cases c <;> simp_all
theorem and4 {a b c d : Bool} (h : (a && b && c && d) = true) : a = true ∧ b = true ∧ c = true ∧ d = true := by
  cases a <;> cases b <;> cases c <;> cases d <;> simp_all
section
variable {cl : Cls0} {N fns : List Str} {kws : List KwS} {cf : Nat → List D → Nat → KE → Prop}
theorem pts_ok {X : Cx} {sc : Scope} {ts : List Expr} {c : XTs} (hl : ts.length ≤ 1) (h : ∀ t x, ts = [x] → c = .cons t .nil → PT X x (tT cl (evT cf t))) (hc : chkTs0 N fns kws c sc ts = true) : PTs X ts (tT cl (evTall cf c)) := by
  cases ts with
  | nil =>
    cases c with
    | nil => exact ⟨fun pins s σ H Q I ⟨P, G0, H0, W, n, f, G, K, hcl, S, e, w⟩ => pts_nil.run pins s σ H Q I (w true n e true G H S Le.rfl' rfl)⟩
    | cons t r => exact absurd hc (by unfold chkTs0; exact Bool.false_ne_true)
  | cons x r =>
    cases r with
    | cons _ _ => exact absurd hl (by simp)
    | nil =>
      cases c with
      | nil => exact absurd hc (by unfold chkTs0; exact Bool.false_ne_true)
      | cons t r2 =>
        cases r2 with
        | cons _ _ => exact absurd hc (by unfold chkTs0; rw [Bool.and_eq_true]; unfold chkTs0; exact fun z => Bool.false_ne_true z.2)
        | nil =>
          refine pts_one ((h t x rfl rfl).imp fun σ H Q ⟨P, G0, H0, W, n, f, G, K, hcl, S, e, w⟩ => ⟨P, G0, H0, W, n, f, G, K, hcl, S, ?_, w⟩)
          have e' : evT cf t f n fun c n1 => if c = true then K true n1 else K false n1 := e
          have q : (fun c n1 => if c = true then K true n1 else K false n1) = K := by
            funext c n1
            cases c <;> rfl
          rw [q] at e'
          exact e'
theorem tv_is {a : Expr} {env : Env} (h : (match a with
    | .UnaryOp .Not _ _ => false | .BoolOp _ _ _ => false | .IfExp _ _ _ _ => false | .Compare _ _ _ _ => false
    | _ => true) = true) : ∀ whole, isTrue a env whole = (do let v ← whole; standAt a.pos; holding [v] (truthy v)) := by
  intro whole
  cases a with
  | UnaryOp op x p => cases op <;> first | rfl | exact absurd h Bool.false_ne_true
  | _ => first | rfl | exact absurd h Bool.false_ne_true
/-- a call without keywords -/
theorem call_ok {X : Cx} {sc : Scope} {g : Nat} {es : EvL} {x : Str} {xs : List Expr} {pos p : Pos} (c : Kx cl N fns kws cf X sc) (hg : fns[g]? = some x) (hgl : glN sc x = true) (hdot : isDot x = false) (ha : PA X xs (tA cl es)) (hp : xs.all plainX = true)
    (h0 : xs = [] → es = fun _ n k => k [] true n) : PE X (.Call (.Name x p) xs [] pos) (tE cl fun f n k => es f n fun xs _ n1 => cf g xs n1 k) := by
  rcases c.call g x hg with ⟨k, fa, fd, ps, F, hr, hm, hk, hb, np, _⟩ | ⟨M, _⟩ | z
  rotate_left
  · cases xs with
    | nil =>
      obtain ⟨k, C, fa, fd, ps, cs, F, hr, hb, np, M, hc, hm, h2⟩ := M
      cases h0 rfl
      exact ⟨fun pins s σ H Q I ⟨P, G0, H0, W, n, f, G, K, hcl, S, e, w⟩ => absurd (np [] n K e) (by simp; omega)⟩
    | cons a xs => exact xe_new M c.gd (c.gl hgl) (glN_of hgl).2 ha hp
  · rw [hdot] at z; cases z
  cases xs with
  | nil => cases h0 rfl; exact xe_call0 (E := fun _ _ _ => False) F c.gd hr (c.gl hgl) hm hk hb passD (glN_of hgl).2 np
  | cons a xs => exact xe_call (E := fun _ _ _ => False) F c.gd hr (c.gl hgl) hm hk hb passD ha hp (glN_of hgl).2 np
theorem kcall_ok {X : Cx} {sc : Scope} {g m : Nat} {ks : List Str} {ord : List Nat} {es ek : EvL} {x : Str} {xs : List Expr} {kwds : List Keyword} {pos p : Pos} (c : Kx cl N fns kws cf X sc) (hg : fns[g]? = some x) (hgl : glN sc x = true) (hdot : isDot x = false) (hmem : (g, ks, m, ord) ∈ kws)
    (ha : PA X xs (tA cl es)) (hp : xs.all plainX = true) (h0 : xs = [] → m = 0 ∧ es = fun _ n k => k [] true n) (hkw : PK X kwds (tA cl ek)) (hn : kwNames kwds = some ks) :
    PE X (.Call (.Name x p) xs kwds pos) (tE cl fun f n k => es f n fun xs _ n1 => ek f n1 fun ys _ n2 => ∃ zs, xs.length = m ∧ ys.length = ks.length ∧ pick (xs ++ ys) ord = some zs ∧ cf g zs n2 k) := by
  rcases c.call g x hg with ⟨k, fa, fd, ps, F, hr, hm, hk, hb, np, kb⟩ | ⟨_, nk⟩ | z
  rotate_left
  · exact absurd hmem (nk ks m ord)
  · rw [hdot] at z; cases z
  cases xs with
  | nil =>
    obtain ⟨rfl, rfl⟩ := h0 rfl
    exact xe_kcall0 (E := fun _ _ _ => False) F c.gd hr (c.gl hgl) hm hk (kb ks 0 ord hmem) passD hkw hn (glN_of hgl).2 np
  | cons a xs => exact xe_kcall (E := fun _ _ _ => False) F c.gd hr (c.gl hgl) hm hk (kb ks m ord hmem) passD ha hkw hn hp (glN_of hgl).2 np
theorem es_nil {es : XEs} {sc : Scope} {xs : List Expr} (h : chkEs N fns kws es sc xs = true) (e : xs = []) : es.len = 0 ∧ evEs cf es = fun _ n k => k [] true n := by
  subst e
  cases es with
  | nil => exact ⟨rfl, rfl⟩
  | cons t ts => exact absurd h (by unfold chkEs; exact Bool.false_ne_true)
theorem biMem (b : Bi) : b.name ∈ bltNames := by cases b <;> decide
theorem xe_and1 {X : Cx} {a : Expr} {pos : Pos} {ea : Ev DB} (ha : PE X a (tE cl ea)) : PE X (.BoolOp .And [a] pos) (tE cl ea) := ⟨fun pins s σ H Q I w => ha.run pins s σ H Q I w⟩
theorem xe_or1 {X : Cx} {a : Expr} {pos : Pos} {ea : Ev DB} (ha : PE X a (tE cl ea)) : PE X (.BoolOp .Or [a] pos) (tE cl ea) := ⟨fun pins s σ H Q I w => ha.run pins s σ H Q I w⟩
theorem tg_tuple {s0 : Scope} {ts : List Nat} {tg : Expr} (h : chkTg N s0 ts tg = true) (hq : (ts.length != 1) = true) : ∃ es k p, tg = .Tuple es k p := by
  rcases chkTg_cases h with ⟨t, x, p, rfl, _⟩ | ⟨_, es, k, p, e, _⟩
  · exact absurd hq (by simp)
  · exact ⟨es, k, p, e⟩
theorem comp_of {el : XE} {ts own : List Nat} {it : XI} {q : XTs} {sc : Scope} {e : Expr} (h : chkL N fns kws (.comp el ts own it q) sc e = true) : ∃ elt tg iter ifs scope pos, e = .ListComp elt [⟨tg, iter, ifs, 0⟩] scope pos ∧ blkC N sc scope (ownPairs N own) = true ∧
    chkTg N scope ts tg = true ∧ chkI N fns kws it sc iter = true ∧ chkE N fns kws el (relS scope sc) elt = true ∧ chkTs0 N fns kws q (relS scope sc) ifs = true ∧ ((∀ t ∈ ts, t ∈ own) ∧ tgI it ts = true) ∧ ifs.length ≤ 1 := by
  unfold chkL at h
  split at h
  · obtain ⟨h, a9⟩ := and2 h
    obtain ⟨h, a8⟩ := and2 h
    obtain ⟨h, a7⟩ := and2 h
    obtain ⟨h, a6⟩ := and2 h
    obtain ⟨h, a5⟩ := and2 h
    obtain ⟨a1, a2, a3, a4⟩ := and4 h
    have a1' := of_decide_eq_true a1
    refine ⟨_, _, _, _, _, _, by rw [a1'], a2, a3, a4, a5, a6, ⟨fun t ht => ?_, a8⟩, of_decide_eq_true a9⟩
    have := List.all_eq_true.mp a7 t ht
    exact of_decide_eq_true this
  · cases h
mutual
theorem okE : ∀ (t : XE) {X : Cx} {sc : Scope} {e : Expr}, Kx cl N fns kws cf X sc → chkE N fns kws t sc e = true → PE X e (tE cl (evE cf t))
  | .var i, X, sc, e, c, h => by
    unfold chkE at h
    split at h
    · obtain ⟨a1, a2, a3, a4⟩ := visN_of h
      exact xe_var (by rw [c.hN]; exact a1) (c.vis a2) a3 a4
    · cases h
  | .int i, X, sc, e, c, h => by
    unfold chkE at h
    split at h
    · cases of_decide_eq_true h
      exact xe_con pe_int fun P G => .int i
    · cases h
  | .str i, X, sc, e, c, h => by
    unfold chkE at h
    split at h
    · cases of_decide_eq_true h
      exact xe_con pe_str fun P G => .str i
    · cases h
  | .bl i, X, sc, e, c, h => by
    unfold chkE at h
    split at h
    · cases of_decide_eq_true h
      exact xe_con pe_bl fun P G => .bl i
    · cases h
  | .non, X, sc, e, c, h => by
    unfold chkE at h
    split at h
    · exact xe_con pe_non fun P G => .non
    · cases h
  | .bin op a b, X, sc, e, c, h => by
    unfold chkE at h
    split at h
    · obtain ⟨a1, a2, a3, a4⟩ := and4 h
      cases of_decide_eq_true a1
      exact xe_bin (okE a c a3) (okE b c a4) a2
    · cases h
  | .neg a, X, sc, e, c, h => by
    unfold chkE at h
    split at h
    · exact xe_neg (okE a c h)
    · cases h
  | .cmp op a b, X, sc, e, c, h => by
    unfold chkE at h
    split at h
    · obtain ⟨a1, a2, a3⟩ := and3 h
      cases of_decide_eq_true a1
      exact xe_cmp c.hu (okO a c a2) (okO b c a3) (set_plain' (shO b a3))
    · cases h
  | .not a, X, sc, e, c, h => by
    unfold chkE at h
    split at h
    · exact xe_not (okE a c h)
    · cases h
  | .andV es, X, sc, e, c, h => by
    unfold chkE at h
    split at h
    · exact okAnd es c h
    · cases h
  | .orV es, X, sc, e, c, h => by
    unfold chkE at h
    split at h
    · exact okOr es c h
    · cases h
  | .ife t a b, X, sc, e, c, h => by
    unfold chkE at h
    split at h
    · obtain ⟨a1, a2, a3⟩ := and3 h
      exact xe_ife (okT t c a1) (okE a c a2) (okE b c a3)
    · cases h
  | .idx a i, X, sc, e, c, h => by
    unfold chkE at h
    split at h
    · obtain ⟨a1, a2⟩ := and2 h
      exact xe_idx c.hu (okO a c a1) (okE i c a2) (plainIx_of (shE i a2))
    · cases h
  | .nl l, X, sc, e, c, h => xe_nl (okL l c (by unfold chkE at h; exact h))
  | .tup es, X, sc, e, c, h => by
    unfold chkE at h
    split at h
    · exact xe_tup (okEs es c h)
    · cases h
  | .call g es, X, sc, e, c, h => by
    unfold chkE at h
    split at h
    · obtain ⟨a1, a2, a0, a3⟩ := and4 h
      exact call_ok c (of_decide_eq_true a1) a2 (by simpa using a0) (okEs es c a3) (shEs es a3) fun z => (es_nil a3 z).2
    · cases h
  | .kcall g es ks kes ord, X, sc, e, c, h => by
    unfold chkE at h
    split at h
    · obtain ⟨h, a7⟩ := and2 h
      obtain ⟨h, a6⟩ := and2 h
      obtain ⟨h, a5⟩ := and2 h
      obtain ⟨h, a4⟩ := and2 h
      obtain ⟨a1, a2, a0, a3⟩ := and4 h
      exact kcall_ok c (of_decide_eq_true a1) a2 (by simpa using a0) (of_decide_eq_true a7) (okEs es c a3) (shEs es a3) (es_nil a3) (okKs kes c a5) (of_decide_eq_true a4)
    · cases h
  | .draw s m, X, sc, e, c, h => by
    unfold chkE at h
    split at h
    · obtain ⟨a1, a2, a3, a4⟩ := and4 h
      cases of_decide_eq_true a1
      obtain ⟨k, fa, fd, ps, F, hr, hm, hk, hb⟩ := c.draw
      exact xe_draw (E := fun _ _ _ => False) F hr (c.gl a2) hm hk hb passD (okE s c a3) (okE m c a4) (shE s a3) (shE m a4) (glN_of a2).2
    · cases h
  | .bi b a, X, sc, e, c, h => by
    unfold chkE at h
    split at h
    · obtain ⟨a1, a2, a3⟩ := and3 h
      cases of_decide_eq_true a1
      exact bi_rule c.calm c.gd c.hu (c.gl a2) (c.mg _ (biMem b)) (okO a c a3) (shO a a3)
    · cases h
  | .bi2 b a d, X, sc, e, c, h => by
    unfold chkE at h
    split at h
    · obtain ⟨h, a5⟩ := and2 h
      obtain ⟨a1, a2, a3, a4⟩ := and4 h
      cases of_decide_eq_true a1
      exact bi2_rule c.calm (c.gl a2) (c.mg _ (biMem b)) (okE a c a3) (okE d c a4) (shE a a3) (shE d a4) (by cases b <;> first | rfl | cases a5)
    · cases h
  | .isi a ts one, X, sc, e, c, h => by
    unfold chkE at h
    split at h
    · obtain ⟨a1, a2, a3, a4⟩ := and4 h
      cases of_decide_eq_true a1
      split at a4
      · exact xe_isi1 (c.gl a2) (c.mg _ (by decide)) (okE a c a3) (shE a a3) (by rw [c.hsc]; exact a4) (ty_mg c.mg)
      · obtain ⟨b1, b2, b3⟩ := and3 a4
        exact xe_isiT (c.gl a2) (c.mg _ (by decide)) (okE a c a3) (shE a a3) (by rw [c.hsc]; exact b1) (by intro z; rw [z] at b2; cases b2) (of_decide_eq_true b3) (ty_mg c.mg)
      · cases a4
    · cases h
  | .sc a, X, sc, e, c, h => xe_sc (okE a c (by unfold chkE at h; exact h))
  | .sls a lo hi, X, sc, e, c, h => by
    unfold chkE at h
    split at h
    · obtain ⟨a1, a2, a3⟩ := and3 h
      exact xe_sls (okO a c a1) (okP lo c a2) (okP hi c a3)
    · cases h
  | .rvs a, X, sc, e, c, h => by
    unfold chkE at h
    split at h
    · obtain ⟨a1, a2⟩ := and2 h
      cases of_decide_eq_true a1
      exact xe_rvs (okO a c a2)
    · cases h
  | .emp, X, sc, e, c, h => by
    unfold chkE at h
    split at h
    · exact xe_emp
    · cases h
  | .dctV l, X, sc, e, c, h => by
    unfold chkE at h
    split at h
    · obtain ⟨a1, a2, a3⟩ := and3 h
      cases of_decide_eq_true a1
      by_cases hl : ∃ el ts own i q, l = .comp el ts own (.over (.ex (.var i))) q
      · obtain ⟨el, ts, own, i, q, rfl⟩ := hl
        obtain ⟨elt, tg, iter, ifs, scope, pos, rfl, h1, h2, h3, h4, h5, h6, h7⟩ := comp_of a3
        have ok := blkOk_by h1
        have hv := h3
        unfold chkI chkO chkE at hv
        split at hv
        · obtain ⟨b1, b2, b3, b4⟩ := visN_of hv
          refine (xe_dctV (cl := cl) (el := fun f n k => match f[i]? with
            | some (.v (.dic [] []) _) => k [] true n
            | _ => False) c.calm (c.gl a2) (c.mg _ (by decide)) (lc_none (cl := cl) c.calm (by rw [c.hN]; exact c.nd) (by rw [c.hN]; exact b1) (c.vis b2) b3 b4 (by rw [c.hN, c.hsc]; exact ok) (setIt (.over (.ex (.var i))) h3 X.env) fun σ H Q ⟨P, G0, H0, W, n, f, G, K, e1, S, e2, w⟩ => ?_) (shL _ a3)).imp fun σ H Q ⟨P, G0, H0, W, n, f, G, K, e1, S, e2, w⟩ => ⟨P, G0, H0, W, n, f, G, K, e1, S, ?_, w⟩
          · unfold ev2 at e2
            dsimp only at e2
            split at e2
            · rename_i b hf
              exact ⟨P, G0, H0, W, n, f, G, fun xs b n1 => K (xs, b) n1, e1, S, ⟨_, hf⟩, e2, fun xs b n1 hk v G1 H1 S1 L1 r1 => w _ _ hk v G1 H1 S1 L1 r1⟩
            · exact e2.elim
          · obtain ⟨e3, e4⟩ := e2
            obtain ⟨b, hf⟩ := empC_of e3
            rw [hf]
            exact ⟨rfl, e4⟩
        · cases hv
      · refine ⟨fun pins s σ H Q I ⟨P, G0, H0, W, n, f, G, K, e1, S, e2, w⟩ => absurd (empC_shape e2.1) hl⟩
    · cases h
  | .catT a b, X, sc, e, c, h => by
    unfold chkE at h
    split at h
    · obtain ⟨a1, a2⟩ := and2 h
      exact xe_catT (okE a c a1) (okE b c a2)
    · cases h
  | .rdw j m, X, sc, e, c, h => by
    unfold chkE at h
    split at h
    · obtain ⟨h, a6⟩ := and2 h
      obtain ⟨h, a5⟩ := and2 h
      obtain ⟨a1, a2, a3, a4⟩ := and4 h
      cases of_decide_eq_true a1
      cases of_decide_eq_true a2
      cases of_decide_eq_true a6
      obtain ⟨b1, b2, b3, b4⟩ := visN_of a5
      obtain ⟨k, fa, fd, ps, F, hr, hm, hk, hb⟩ := c.draw
      obtain ⟨⟨k2, fa2, fd2, F2, hr2, hm2, hk2, hb2⟩, hok⟩ := c.strc
      exact xe_rdw (E := fun _ _ _ => False) F hr (c.gl a3) hm hk hb F2 hr2 (c.gl a4) hm2 hk2 hb2 passD passD hok (by rw [c.hN]; exact b1) (c.vis b2) b3 b4
    · cases h
  | .dsp kvs, X, sc, e, c, h => by
    unfold chkE at h
    split at h
    · obtain ⟨a1, a2, a3⟩ := and3 h
      obtain ⟨b1, b2⟩ := and2 a3
      exact xe_dsp a1 (of_decide_eq_true a2) (by intro z; rw [z] at b1; cases b1) (of_decide_eq_true b2)
    · cases h
  | .ixo a i, X, sc, e, c, h => by
    unfold chkE at h
    split at h
    · obtain ⟨h, a4⟩ := and2 h
      obtain ⟨a1, a2, a3⟩ := and3 h
      obtain ⟨b1, b2⟩ := and2 a4
      cases of_decide_eq_true a1
      split at a2
      · exact xe_ixo (okO a c b1) (okE i c b2) (shE i b2) (by rfl) a3
      · cases a2
    · cases h
  | .tseg g, X, sc, e, c, h => by
    unfold chkE at h
    split at h
    · exact xe_tup (okSg g c h)
    · cases h
  | .att a x i, X, sc, e, c, h => by
    unfold chkE at h
    split at h
    · obtain ⟨a1, a2, a3⟩ := and3 h
      obtain ⟨q, hq, hq2⟩ := List.any_eq_true.mp a2
      obtain ⟨b1, b2⟩ := and2 hq2
      have b1 := of_decide_eq_true b1
      rw [b1] at hq
      refine xe_att (c.clsf _ _ hq) (of_decide_eq_true b2) (okE a c a1) ?_
      split at a3
      · rfl
      · cases a3
    · cases h
  | .isc a x, X, sc, e, c, h => by
    unfold chkE at h
    split at h
    · obtain ⟨h, a6⟩ := and2 h
      obtain ⟨h, a5⟩ := and2 h
      obtain ⟨a1, a2, a3, a4⟩ := and4 h
      obtain ⟨q, hq, hq2⟩ := List.any_eq_true.mp a6
      rw [of_decide_eq_true hq2] at hq
      cases of_decide_eq_true a1
      cases of_decide_eq_true a3
      exact xe_isc (c.clsf _ _ hq) (c.gl a2) (c.mg _ (by decide)) (c.gl a4) (glN_of a4).2 (okE a c a5) (shE a a5)
    · cases h
  | .meth g x m a es, X, sc, e, c, h => by
    unfold chkE at h
    split at h
    · rename_i x2 m2 ap xs pos
      obtain ⟨h, a5⟩ := and2 h
      obtain ⟨h, a4⟩ := and2 h
      obtain ⟨h, a3⟩ := and2 h
      obtain ⟨h, a2⟩ := and2 h
      obtain ⟨b1, b2, b3, a1⟩ := and4 h
      cases of_decide_eq_true a2
      have M := c.methf _ _ _ (of_decide_eq_true a3)
      cases xs with
      | nil =>
        have e0 := (es_nil (cf := cf) a4 rfl).2
        have e1 : evE cf (.meth g x m a es) = fun f n k => evE cf a f n fun x1 n1 => match x1.1 with
            | .ins c2 fs => c2 = x ∧ cf g [.ins c2 fs] n1 k
            | _ => False := by
          funext f n k
          conv => lhs; unfold evE
          rw [e0]
          try rfl
        rw [e1]
        exact xe_meth0 (pos := pos) (apos := ap) M c.gd (okE a c a1) (meth_eval b1 b2 rfl (by decide))
      | cons y ys => exact xe_meth M c.gd (okE a c a1) (okEs es c a4) (shEs es a4) (meth_eval b1 b2 (star_plain (shEs es a4) pos X.env) (of_decide_eq_true b3))
    · cases h
theorem okAnd : ∀ (ts : XEs) {X : Cx} {sc : Scope} {es : List Expr} {pos : Pos}, Kx cl N fns kws cf X sc → chkEs N fns kws ts sc es = true → PE X (.BoolOp .And es pos) (tE cl (evAnd cf ts))
  | .nil, X, sc, es, pos, c, h => ⟨fun pins s σ H Q I ⟨P, G0, H0, W, n, f, G, K, hcl, S, e, w⟩ => (show False from e).elim⟩
  | .cons t .nil, X, sc, es, pos, c, h => by
    unfold chkEs at h
    split at h
    · obtain ⟨a1, a2⟩ := and2 h
      rename_i x xs
      cases xs with
      | nil => exact xe_and1 (okE t c a1)
      | cons _ _ => exact absurd a2 (by unfold chkEs; exact Bool.false_ne_true)
    · cases h
  | .cons t (.cons t2 ts), X, sc, es, pos, c, h => by
    unfold chkEs at h
    split at h
    · obtain ⟨a1, a2⟩ := and2 h
      rename_i x xs
      cases xs with
      | nil => exact absurd a2 (by unfold chkEs; exact Bool.false_ne_true)
      | cons _ _ => exact xe_and (okE t c a1) (okAnd (.cons t2 ts) c a2)
    · cases h
theorem okOr : ∀ (ts : XEs) {X : Cx} {sc : Scope} {es : List Expr} {pos : Pos}, Kx cl N fns kws cf X sc → chkEs N fns kws ts sc es = true → PE X (.BoolOp .Or es pos) (tE cl (evOr cf ts))
  | .nil, X, sc, es, pos, c, h => ⟨fun pins s σ H Q I ⟨P, G0, H0, W, n, f, G, K, hcl, S, e, w⟩ => (show False from e).elim⟩
  | .cons t .nil, X, sc, es, pos, c, h => by
    unfold chkEs at h
    split at h
    · obtain ⟨a1, a2⟩ := and2 h
      rename_i x xs
      cases xs with
      | nil => exact xe_or1 (okE t c a1)
      | cons _ _ => exact absurd a2 (by unfold chkEs; exact Bool.false_ne_true)
    · cases h
  | .cons t (.cons t2 ts), X, sc, es, pos, c, h => by
    unfold chkEs at h
    split at h
    · obtain ⟨a1, a2⟩ := and2 h
      rename_i x xs
      cases xs with
      | nil => exact absurd a2 (by unfold chkEs; exact Bool.false_ne_true)
      | cons _ _ => exact xe_or (okE t c a1) (okOr (.cons t2 ts) c a2)
    · cases h
theorem okEs : ∀ (ts : XEs) {X : Cx} {sc : Scope} {es : List Expr}, Kx cl N fns kws cf X sc → chkEs N fns kws ts sc es = true → PA X es (tA cl (evEs cf ts))
  | .nil, X, sc, es, c, h => by
    unfold chkEs at h
    split at h
    · exact xa_nil
    · cases h
  | .cons t ts, X, sc, es, c, h => by
    unfold chkEs at h
    split at h
    · obtain ⟨a1, a2⟩ := and2 h
      exact xa_cons (okE t c a1) (okEs ts c a2) (shE t a1)
    · cases h
theorem okSg : ∀ (g : XSg) {X : Cx} {sc : Scope} {es : List Expr}, Kx cl N fns kws cf X sc → chkSg N fns kws g sc es = true → PA X es (tA cl (evSg cf g))
  | .nil, X, sc, es, c, h => by
    unfold chkSg at h
    split at h
    · exact xa_nil
    · cases h
  | .one t r, X, sc, es, c, h => by
    unfold chkSg at h
    split at h
    · obtain ⟨a1, a2⟩ := and2 h
      exact xa_cons (okE t c a1) (okSg r c a2) (shE t a1)
    · cases h
  | .star o r, X, sc, es, c, h => by
    unfold chkSg at h
    split at h
    · obtain ⟨a1, a2⟩ := and2 h
      exact xa_star (okO o c a1) (okSg r c a2)
    · cases h
theorem okKs : ∀ (ts : XEs) {X : Cx} {sc : Scope} {ks : List Keyword}, Kx cl N fns kws cf X sc → chkEs N fns kws ts sc (ks.map (·.value)) = true → PK X ks (tA cl (evEs cf ts))
  | .nil, X, sc, ks, c, h => by
    cases ks with
    | nil => exact xk_nil
    | cons _ _ => exact absurd h (by unfold chkEs; exact Bool.false_ne_true)
  | .cons t ts, X, sc, ks, c, h => by
    cases ks with
    | nil => exact absurd h (by unfold chkEs; exact Bool.false_ne_true)
    | cons k ks =>
      obtain ⟨nm, v, kp⟩ := k
      unfold chkEs at h
      obtain ⟨a1, a2⟩ := and2 h
      exact xk_cons (okE t c a1) (okKs ts c a2)
theorem okO : ∀ (t : XO) {X : Cx} {sc : Scope} {e : Expr}, Kx cl N fns kws cf X sc → chkO N fns kws t sc e = true → PE X e (tO cl (evO cf t))
  | .ex a, X, sc, e, c, h => xo_ex (okE a c (by unfold chkO at h; exact h))
  | .own i, X, sc, e, c, h => by
    unfold chkO at h
    split at h
    · obtain ⟨a1, a2, a3, a4⟩ := visN_of h
      exact xo_own (by rw [c.hN]; exact a1) (c.vis a2) a3 a4
    · cases h
theorem okP : ∀ (t : XP) {X : Cx} {sc : Scope} {e : Option Expr}, Kx cl N fns kws cf X sc → chkP N fns kws t sc e = true → PO X e (tP cl (evP cf t))
  | .no, X, sc, e, c, h => by
    unfold chkP at h
    split at h
    · exact xp_no
    · cases h
  | .yes a, X, sc, e, c, h => by
    unfold chkP at h
    split at h
    · exact xp_yes (okE a c h)
    · cases h
theorem okT : ∀ (t : XT) {X : Cx} {sc : Scope} {e : Expr}, Kx cl N fns kws cf X sc → chkT N fns kws t sc e = true → PT X e (tT cl (evT cf t))
  | .tv a, X, sc, e, c, h => by
    unfold chkT at h
    obtain ⟨a1, a2⟩ := and2 h
    exact xt_tv (okE a c a1) (tv_is a2)
  | .tc op a b, X, sc, e, c, h => by
    unfold chkT at h
    split at h
    · obtain ⟨a1, a2, a3⟩ := and3 h
      cases of_decide_eq_true a1
      exact xt_cmp c.hu (okO a c a2) (okO b c a3) (set_plain' (shO b a3))
    · cases h
  | .tn t, X, sc, e, c, h => by
    unfold chkT at h
    split at h
    · exact xt_not (okT t c h)
    · cases h
  | .tch op op' a b d, X, sc, e, c, h => by
    unfold chkT at h
    split at h
    · obtain ⟨h, a7⟩ := and2 h
      obtain ⟨h, a6⟩ := and2 h
      obtain ⟨h, a5⟩ := and2 h
      obtain ⟨a1, a2, a3, a4⟩ := and4 h
      cases of_decide_eq_true a1
      cases of_decide_eq_true a2
      cases of_decide_eq_true a3
      cases of_decide_eq_true a4
      exact xt_tch c.hu (okO a c a5) (okO b c a6) (okO d c a7) (nomark _)
    · cases h
  | .ta ts, X, sc, e, c, h => by
    unfold chkT at h
    split at h
    · obtain ⟨a1, a2⟩ := and2 h
      exact (okWA ts c a1 (by intro z; rw [z] at a2; cases a2)).pt
    · cases h
  | .to ts, X, sc, e, c, h => by
    unfold chkT at h
    split at h
    · obtain ⟨a1, a2⟩ := and2 h
      exact (okWO ts c a1 (by intro z; rw [z] at a2; cases a2)).pt
    · cases h
theorem okWA : ∀ (ts : XTs) {X : Cx} {sc : Scope} {es : List Expr} {pos : Pos}, Kx cl N fns kws cf X sc → chkTs0 N fns kws ts sc es = true → es ≠ [] → PW X (.BoolOp .And es pos) (tT cl (evTall cf ts))
  | .nil, X, sc, es, pos, c, h, hne => by
    unfold chkTs0 at h
    split at h
    · exact absurd rfl hne
    · cases h
  | .cons t .nil, X, sc, es, pos, c, h, hne => by
    unfold chkTs0 at h
    split at h
    · obtain ⟨a1, a2⟩ := and2 h
      rename_i x xs
      cases xs with
      | nil => exact xw_and1 (okT t c a1)
      | cons _ _ => exact absurd a2 (by unfold chkTs0; exact Bool.false_ne_true)
    · cases h
  | .cons t (.cons t2 ts), X, sc, es, pos, c, h, hne => by
    unfold chkTs0 at h
    split at h
    · obtain ⟨a1, a2⟩ := and2 h
      rename_i x xs
      cases xs with
      | nil => exact absurd a2 (by unfold chkTs0; exact Bool.false_ne_true)
      | cons _ _ => exact xw_and (okT t c a1) (okWA (.cons t2 ts) c a2 (List.cons_ne_nil _ _))
    · cases h
theorem okWO : ∀ (ts : XTs) {X : Cx} {sc : Scope} {es : List Expr} {pos : Pos}, Kx cl N fns kws cf X sc → chkTs0 N fns kws ts sc es = true → es ≠ [] → PW X (.BoolOp .Or es pos) (tT cl (evTany cf ts))
  | .nil, X, sc, es, pos, c, h, hne => by
    unfold chkTs0 at h
    split at h
    · exact absurd rfl hne
    · cases h
  | .cons t .nil, X, sc, es, pos, c, h, hne => by
    unfold chkTs0 at h
    split at h
    · obtain ⟨a1, a2⟩ := and2 h
      rename_i x xs
      cases xs with
      | nil => exact xw_or1 (okT t c a1)
      | cons _ _ => exact absurd a2 (by unfold chkTs0; exact Bool.false_ne_true)
    · cases h
  | .cons t (.cons t2 ts), X, sc, es, pos, c, h, hne => by
    unfold chkTs0 at h
    split at h
    · obtain ⟨a1, a2⟩ := and2 h
      rename_i x xs
      cases xs with
      | nil => exact absurd a2 (by unfold chkTs0; exact Bool.false_ne_true)
      | cons _ _ => exact xw_or (okT t c a1) (okWO (.cons t2 ts) c a2 (List.cons_ne_nil _ _))
    · cases h
theorem okI : ∀ (t : XI) {X : Cx} {sc s0 : Scope} {e tg : Expr} {ts : List Nat}, Kx cl N fns kws cf X sc → chkI N fns kws t sc e = true → chkTg N s0 ts tg = true → tgI t ts = true → PI X tg e (tI cl (evI cf t) (fzI t))
  | .over (.own i), X, sc, s0, e, tg, ts, c, h, ht, hq => by
    unfold chkI at h
    exact xi_over (okO (.own i) c h)
  | .over (.ex a), X, sc, s0, e, tg, ts, c, h, ht, hq => by
    unfold chkI at h
    unfold chkO at h
    exact xi_overE (okE a c h)
  | .rng1 a, X, sc, s0, e, tg, ts, c, h, ht, hq => by
    unfold chkI at h
    split at h
    · obtain ⟨a1, a2, a3⟩ := and3 h
      cases of_decide_eq_true a1
      exact xi_rng1 (c.gl a2) (c.mg _ (by decide)) (okE a c a3) (shE a a3)
    · cases h
  | .rng2 a b, X, sc, s0, e, tg, ts, c, h, ht, hq => by
    unfold chkI at h
    split at h
    · obtain ⟨a1, a2, a3, a4⟩ := and4 h
      cases of_decide_eq_true a1
      exact xi_rng2 (c.gl a2) (c.mg _ (by decide)) (okE a c a3) (okE b c a4) (shE a a3) (shE b a4)
    · cases h
  | .rng3 a b, X, sc, s0, e, tg, ts, c, h, ht, hq => by
    unfold chkI at h
    split at h
    · obtain ⟨h, a5⟩ := and2 h
      obtain ⟨a1, a2, a3, a4⟩ := and4 h
      cases of_decide_eq_true a1
      cases of_decide_eq_true a5
      exact xi_rng3 (c.gl a2) (c.mg _ (by decide)) (okE a c a3) (okE b c a4) (shE a a3) (shE b a4)
    · cases h
  | .dctk l, X, sc, s0, e, tg, ts, c, h, ht, hq => by
    unfold chkI at h
    split at h
    · obtain ⟨a1, a2, a3⟩ := and3 h
      cases of_decide_eq_true a1
      exact xi_dctk c.calm (c.gl a2) (c.mg _ (by decide)) (okL l c a3) (shL l a3)
    · cases h
  | .enum (.own i), X, sc, s0, e, tg, ts, c, h, ht, hq => by
    unfold chkI at h
    split at h
    · obtain ⟨a1, a2, a3⟩ := and3 h
      cases of_decide_eq_true a1
      obtain ⟨es, k, p, rfl⟩ := tg_tuple ht hq
      exact xi_enum (c.gl a2) (c.mg _ (by decide)) (okO (.own i) c a3) (shO _ a3)
    · cases h
  | .enum (.ex a), X, sc, s0, e, tg, ts, c, h, ht, hq => by
    unfold chkI at h
    split at h
    · obtain ⟨a1, a2, a3⟩ := and3 h
      cases of_decide_eq_true a1
      obtain ⟨es, k, p, rfl⟩ := tg_tuple ht hq
      unfold chkO at a3
      exact xi_enumE (c.gl a2) (c.mg _ (by decide)) (okE a c a3) (shE _ a3)
    · cases h
  | .zip (.ex a) (.ex b), X, sc, s0, e, tg, ts, c, h, ht, hq => by
    unfold chkI at h
    split at h
    · obtain ⟨a1, a2, a3, a4⟩ := and4 h
      cases of_decide_eq_true a1
      obtain ⟨es, k, p, rfl⟩ := tg_tuple ht hq
      unfold chkO at a3 a4
      exact xi_zipE (c.gl a2) (c.mg _ (by decide)) (okE a c a3) (okE b c a4) (shE _ a3) (shE _ a4)
    · cases h
  | .zip (.own a) b, X, sc, s0, e, tg, ts, c, h, ht, hq => by
    unfold chkI at h
    split at h
    · obtain ⟨a1, a2, a3, a4⟩ := and4 h
      cases of_decide_eq_true a1
      obtain ⟨es, k, p, rfl⟩ := tg_tuple ht hq
      exact xi_zip (c.gl a2) (c.mg _ (by decide)) (okO (.own a) c a3) (okO b c a4) (shO _ a3) (shO _ a4)
    · cases h
  | .zip (.ex a) (.own b), X, sc, s0, e, tg, ts, c, h, ht, hq => by
    unfold chkI at h
    split at h
    · obtain ⟨a1, a2, a3, a4⟩ := and4 h
      cases of_decide_eq_true a1
      obtain ⟨es, k, p, rfl⟩ := tg_tuple ht hq
      exact xi_zip (c.gl a2) (c.mg _ (by decide)) (okO (.ex a) c a3) (okO (.own b) c a4) (shO _ a3) (shO _ a4)
    · cases h
theorem okL : ∀ (t : XL) {X : Cx} {sc : Scope} {e : Expr}, Kx cl N fns kws cf X sc → chkL N fns kws t sc e = true → PE X e (tL cl (evL cf t))
  | .lit es, X, sc, e, c, h => by
    unfold chkL at h
    split at h
    · exact xl_lit (okEs es c h)
    · cases h
  | .cat a b, X, sc, e, c, h => by
    unfold chkL at h
    split at h
    · obtain ⟨a1, a2⟩ := and2 h
      exact xl_cat (okO a c a1) (okO b c a2)
    · cases h
  | .rep a m, X, sc, e, c, h => by
    unfold chkL at h
    split at h
    · obtain ⟨a1, a2⟩ := and2 h
      exact xl_rep (okO a c a1) (okE m c a2)
    · cases h
  | .sl a lo hi, X, sc, e, c, h => by
    unfold chkL at h
    split at h
    · obtain ⟨a1, a2, a3⟩ := and3 h
      exact xl_sl (okO a c a1) (okP lo c a2) (okP hi c a3)
    · cases h
  | .rev a, X, sc, e, c, h => by
    unfold chkL at h
    split at h
    · obtain ⟨a1, a2⟩ := and2 h
      cases of_decide_eq_true a1
      exact xl_rev (okO a c a2)
    · cases h
  | .of a, X, sc, e, c, h => by
    unfold chkL at h
    split at h
    · obtain ⟨a1, a2, a3⟩ := and3 h
      cases of_decide_eq_true a1
      exact xl_of c.calm (c.gl a2) (c.mg _ (by decide)) (okO a c a3) (shO a a3)
    · cases h
  | .srt a, X, sc, e, c, h => by
    unfold chkL at h
    split at h
    · obtain ⟨a1, a2, a3⟩ := and3 h
      cases of_decide_eq_true a1
      exact xl_srt (c.gl a2) (c.mg _ (by decide)) (okO a c a3) (shO a a3)
    · cases h
  | .rngL1 a, X, sc, e, c, h => by
    unfold chkL at h
    split at h
    · obtain ⟨h, a5⟩ := and2 h
      obtain ⟨a1, a2, a3, a4⟩ := and4 h
      cases of_decide_eq_true a1
      cases of_decide_eq_true a3
      exact xl_rng1 c.calm (c.gl a2) (c.mg _ (by decide)) (c.gl a4) (c.mg _ (by decide)) (okE a c a5) (shE a a5)
    · cases h
  | .rngL2 a b, X, sc, e, c, h => by
    unfold chkL at h
    split at h
    · obtain ⟨h, a6⟩ := and2 h
      obtain ⟨h, a5⟩ := and2 h
      obtain ⟨a1, a2, a3, a4⟩ := and4 h
      cases of_decide_eq_true a1
      cases of_decide_eq_true a3
      exact xl_rng2 c.calm (c.gl a2) (c.mg _ (by decide)) (c.gl a4) (c.mg _ (by decide)) (okE a c a5) (okE b c a6) (shE a a5) (shE b a6)
    · cases h
  | .seg g, X, sc, e, c, h => by
    unfold chkL at h
    split at h
    · exact xl_lit (okSg g c h)
    · cases h
  | .comp el ts own it q, X, sc, e, c, h => by
    obtain ⟨elt, tg, iter, ifs, scope, pos, rfl, h1, h2, h3, h4, h5, h6, h7⟩ := comp_of h
    have ok := blkOk_by h1
    have hb := fun s H C cel fp => c.blk (scope := scope) ok.kind s H C cel fp
    refine (pe_lc (g := gOf X.K ts tg) c.calm (by rw [c.hN]; exact c.nd) (okI it c h3 h2 h6.2) (by rw [c.hN, c.hsc]; exact ok) (fun s H C cel fp => pg_of (storeBlk c s H C cel fp) c.calm h2) (fun s H C cel fp => pts_ok h7 (fun t x e1 e2 => okT t (hb s H C cel fp) (by
        subst e1 e2
        unfold chkTs0 at h5
        exact (and2 h5).1)) h5) (fun s H C cel fp => okE el (hb s H C cel fp) h4) (setIt it h3 X.env)).imp fun σ H Q w => ?_
    rw [ownPairs_snd]
    exact lc_ok h2 h6.1 w
end
end
end DL

set_option maxHeartbeats 8000000
/-! DL16: .. statements. -/
namespace DL
open PySem PySem.Spec PyProof.Rows L2

section
variable {cl : Cls0} {N fns : List Str} {kws : List KwS} {cf : Nat → List D → Nat → KE → Prop}
/-- a context in which names are stored -/
structure Sx (cl : Cls0) (N fns : List Str) (kws : List KwS) (cf : Nat → List D → Nat → KE → Prop) (X : Cx) (sc : Scope) : Prop extends Kx cl N fns kws cf X sc where
  so : StoreOk X N sc
  po : PassesOwn (model X.prog X.w) X.A X.env X.xe
theorem dict_of {e : Expr} (h : (match e with
    | .Dict [] [] _ => true
    | _ => false) = true) : ∃ pos, e = .Dict [] [] pos := by
  split at h
  · exact ⟨_, rfl⟩
  · cases h
theorem shR : ∀ (r : XR) {sc : Scope} {e : Expr}, chkR N fns kws r sc e = true → plainX e = true
  | .e t, sc, e, h => shE t h
  | .l t, sc, e, h => shL t h
  | .k, sc, e, h => by obtain ⟨pos, rfl⟩ := dict_of h; rfl
  | .kt, sc, e, h => by obtain ⟨pos, rfl⟩ := dict_of h; rfl
theorem okR : ∀ (r : XR) {X : Cx} {sc : Scope} {e : Expr}, Kx cl N fns kws cf X sc → chkR N fns kws r sc e = true → PE X e (tR cl (evR cf r))
  | .e t, X, sc, e, c, h => xr_e (okE t c h)
  | .l t, X, sc, e, c, h => xr_l (okL t c h)
  | .k, X, sc, e, c, h => by obtain ⟨pos, rfl⟩ := dict_of h; exact xr_k
  | .kt, X, sc, e, c, h => by obtain ⟨pos, rfl⟩ := dict_of h; exact xr_kt
theorem okRs : ∀ (rs : List XR) {X : Cx} {sc : Scope} {es : List Expr}, Kx cl N fns kws cf X sc → chkRs N fns kws rs sc es = true → PA X es (tRs cl (evRs cf rs)) ∧ ∀ e ∈ es, plainX e = true
  | [], X, sc, [], c, h => ⟨xrs_nil, fun e z => by cases z⟩
  | [], X, sc, _ :: _, c, h => absurd h Bool.false_ne_true
  | _ :: _, X, sc, [], c, h => absurd h Bool.false_ne_true
  | r :: rs, X, sc, e :: es, c, h => by
    obtain ⟨h1, h2⟩ := and2 h
    obtain ⟨a1, a2⟩ := okRs rs c h2
    refine ⟨xrs_cons (okR r c h1) (shR r h1) a1, fun x z => ?_⟩
    rcases List.mem_cons.mp z with q | q
    · rw [q]; exact shR r h1
    · exact a2 x q
theorem swaps_is {v : Expr} {x : Str} {px : Pos} {l : Nat} {env : Env} (pl : plainX v = true) (hk : env.scope.kind = .function) : swapsWith v (some (.Name x px)) l env = pure (swapB env.scope x px l v) := by
  have hb : env.blockKind = .function := by unfold Env.blockKind; rw [hk]; rfl
  cases v with
  | ListComp elt gs scope pos =>
    unfold swapsWith swapB
    simp only [hb, Expr.pos]
    have e : (env.kindOf x == some .local) = decide (env.scope.names.lookup x = some .local) := by
      show (env.scope.names.lookup x == some .local) = _
      cases env.scope.names.lookup x with
      | none => rfl
      | some k => cases k <;> rfl
    rw [e]
    rfl
  | SetComp => exact absurd pl Bool.false_ne_true
  | DictComp => exact absurd pl Bool.false_ne_true
  | _ => rfl
theorem unp_none {es : List Expr} {k : Nat} {pt : Pos} {v : Expr} {env : Env} (h : (match v with | .Tuple _ _ _ => !(es.length == 2 || es.length == 3) | _ => true) = true) : swappedStores [.Tuple es k pt] v env = pure none := by
  cases v with
  | Tuple vs k2 p2 =>
    unfold swappedStores
    simp only [h, Bool.true_or, if_true]
  | _ => rfl
theorem swap_cell {es vs : List Expr} {k k2 : Nat} {pt p2 : Pos} {env : Env} (h : es.any (cellT env.scope) = true) : swappedStores [.Tuple es k pt] (.Tuple vs k2 p2) env = pure none := by
  unfold swappedStores
  simp only [pure_bind]
  generalize hF : (List.filterMap _ es) = nm
  have hne : (nm.length != es.length) = true := by
    obtain ⟨e, he, hc⟩ := List.any_eq_true.mp h
    have lt : nm.length < es.length := by
      rw [← hF]
      apply List.length_filterMap_lt_length_iff_exists.mpr
      refine ⟨e, he, ?_⟩
      cases e with
      | Name x q =>
        have hx : env.scope.names.lookup x ≠ some .local := by
          intro z
          have hc' : (!decide (env.scope.names.lookup x = some .local)) = true := hc
          rw [decide_eq_true z] at hc'
          cases hc'
        have hk : (env.kindOf x == some .local) = false := by
          show (env.scope.names.lookup x == some .local) = false
          cases q : env.scope.names.lookup x with
          | none => rfl
          | some kd => cases kd <;> first | rfl | exact absurd q hx
        simp only [hk, Bool.false_and]
        rfl
      | _ => cases hc
    have ne : nm.length ≠ es.length := Nat.ne_of_lt lt
    simpa using ne
  simp only [hne, Bool.true_or, if_true, ite_self]
theorem unp_fold {es vs : List Expr} {k k2 : Nat} {pt p2 : Pos} {env : Env} (h : vs.all (foldedForSure 8) = true) : swappedStores [.Tuple es k pt] (.Tuple vs k2 p2) env = pure none := by
  unfold swappedStores
  simp only [h, if_true, pure_bind, ite_self]
theorem unp_any {es : List Expr} {k : Nat} {pt : Pos} {v : Expr} {env : Env} (h : (match v with | .Tuple vs _ _ => !(es.length == 2 || es.length == 3) || (vs.all (foldedForSure 8) && es.all (fun e => match e with | .Name _ _ => true | _ => false)) | _ => true) = true) : swappedStores [.Tuple es k pt] v env = pure none := by
  cases v with
  | Tuple vs k2 p2 =>
    rcases Bool.or_eq_true_iff.mp h with h | h
    · exact unp_none (v := .Tuple vs k2 p2) h
    · exact unp_fold (and2 h).1
  | _ => rfl
theorem asg_all {X : Cx} {sc : Scope} {i : Nat} {r : XR} {x : Str} {px pos : Pos} {v : Expr} (c : Sx cl N fns kws cf X sc) (hl : locN N sc i x = true) (hr : chkR N fns kws r sc v = true) (hs : (match r with | .e _ => !swapB sc x px pos.line v | _ => true) = true) :
    PS X (.Assign [.Name x px] v pos) (tS cl (evS cf (.asg i r))) := by
  have pl := shR r hr
  have hk : X.env.scope.kind = .function := by rw [c.hsc]; exact c.kind
  cases hb : swapB sc x px pos.line v with
  | false => exact xs_asg c.so hl (okR r c.toKx hr) (by rw [swaps_is pl hk, c.hsc, hb])
  | true =>
    cases r with
    | e t => rw [hb] at hs; cases hs
    | k => obtain ⟨pos, rfl⟩ := dict_of hr; cases hb
    | kt => obtain ⟨pos, rfl⟩ := dict_of hr; cases hb
    | l t =>
      have hsw : swapsWith v (some (.Name x px)) pos.line X.env = pure true := by rw [swaps_is pl hk, c.hsc, hb]
      have hl' : chkL N fns kws t sc v = true := hr
      cases t with
      | comp el ts own it q =>
        obtain ⟨elt, tg, iter, ifs, scope, cpos, rfl, h1, h2, h3, h4, h5, h6, h7⟩ := comp_of hl'
        have ok := blkOk_by h1
        have hb' := fun s H C cel fp => c.toKx.blk (scope := scope) ok.kind s H C cel fp
        have hloc : X.env.scope.names.lookup x = some .local := by
          unfold swapB at hb
          obtain ⟨b1, b2, b3⟩ := and3 hb
          rw [c.hsc]; exact of_decide_eq_true b1
        refine (ps_setLc (i := i) (g := gOf X.K ts tg) c.calm (by rw [c.hN]; exact c.nd) (by rw [c.hN]; exact (locN_of hl).1) hloc hsw (okI it c.toKx h3 h2 h6.2) (by rw [c.hN, c.hsc]; exact ok) (fun s H C cel fp => pg_of (storeBlk c.toKx s H C cel fp) c.calm h2) (fun s H C cel fp => pts_ok h7 (fun t x e1 e2 => okT t (hb' s H C cel fp) (by
            subst e1 e2
            unfold chkTs0 at h5
            exact (and2 h5).1)) h5) (fun s H C cel fp => okE el (hb' s H C cel fp) h4) (setIt it h3 X.env)).imp fun D σ H w => ?_
        rw [ownPairs_snd]
        have key : ∀ σ H Q, tR cl (evR cf (.l (.comp el ts own it q))) σ H Q → tLc (tI cl (evI cf it) (fzI it)) (gOf X.K ts tg) (tT cl (evTall cf q)) (tE cl (evE cf el)) own σ H Q := tr_l (el := evL cf (.comp el ts own it q)) fun σ H Q w => lc_ok h2 h6.1 w
        exact asg_ok key D σ H w
      | _ => unfold chkL at hl'; split at hl' <;> first | cases hl' | cases hb
mutual
theorem okS : ∀ (t : XS) {X : Cx} {sc : Scope} {s : Stmt}, Sx cl N fns kws cf X sc → chkS N fns kws t sc s = true → PS X s (tS cl (evS cf t))
  | .asg i r, X, sc, s, c, h => by
    unfold chkS at h
    split at h
    · obtain ⟨a1, a2, a3⟩ := and3 h
      exact asg_all c a1 a2 (by cases r <;> first | rfl | exact a3)
    · cases h
  | .par2 i j r q, X, sc, s, c, h => by
    unfold chkS at h
    split at h
    · obtain ⟨h, a9⟩ := and2 h
      obtain ⟨h, a8⟩ := and2 h
      obtain ⟨h, a7⟩ := and2 h
      obtain ⟨h, a6⟩ := and2 h
      obtain ⟨h, a5⟩ := and2 h
      obtain ⟨a1, a2, a3, a4⟩ := and4 h
      exact xs_par c.so c.calm c.hsc (by rw [c.hsc]; exact c.kind) a1 a2 (of_decide_eq_true a3) (of_decide_eq_true a4) (okR r c.toKx a5) (okR q c.toKx a6) (shR r a5) (shR q a6) a7 (by rw [Bool.not_eq_true'] at a8; exact a8) (by rw [Bool.not_eq_true'] at a9; exact a9)
    · cases h
  | .par ts rs, X, sc, s, c, h => by
    unfold chkS at h
    split at h
    · rename_i es k pt vs k2 pt2 pos
      obtain ⟨h, a6⟩ := and2 h
      obtain ⟨h, a5⟩ := and2 h
      obtain ⟨a1, a2, a3, a4⟩ := and4 h
      obtain ⟨b1, b2⟩ := okRs rs c.toKx a2
      split at a6
      · rename_i hcell
        exact xs_parT c.so c.calm a1 b1 (swap_cell (by rw [c.hsc]; exact hcell)) (by rw [of_decide_eq_true a4]; exact of_decide_eq_true a5)
      split at a6
      · split at a6
        · rename_i i j l x px y py z pz a b d
          obtain ⟨h, c8⟩ := and2 a6
          obtain ⟨h, c7⟩ := and2 h
          obtain ⟨h, c6⟩ := and2 h
          obtain ⟨h, c5⟩ := and2 h
          obtain ⟨c1, c2, c3, c4⟩ := and4 h
          have nd := of_decide_eq_true a3
          exact xs_par3 c.so c.calm c.hsc (by rw [c.hsc]; exact c.kind) c1 c2 c3 (fun e => by rw [e] at nd; simp at nd) (fun e => by rw [e] at nd; simp at nd) (fun e => by rw [e] at nd; simp at nd) (of_decide_eq_true c4) b1 (b2 _ (by simp)) (b2 _ (by simp)) (b2 _ (by simp)) c5 c6 (by rw [Bool.not_eq_true'] at c7; exact c7) (by rw [Bool.not_eq_true'] at c8; exact c8)
        · cases a6
      · refine xs_parT c.so c.calm a1 b1 ?_ (by rw [of_decide_eq_true a4]; exact of_decide_eq_true a5)
        refine unp_none ?_
        rename_i q
        rw [Bool.not_eq_true'] at a6
        show (!(es.length == 2 || es.length == 3)) = true
        rw [a6]
        simpa using q
    · cases h
  | .unp ts e, X, sc, s, c, h => by
    unfold chkS at h
    split at h
    · obtain ⟨a1, a2, a4⟩ := and3 h
      exact xs_unp2 c.so c.calm a1 (okE e c.toKx a2) (unp_any a4)
    · cases h
  | .setL i ix e, X, sc, s, c, h => by
    unfold chkS at h
    split at h
    · obtain ⟨a1, a2, a3, a4⟩ := and4 h
      obtain ⟨b1, b2, b3, b4⟩ := visN_of a1
      exact xs_setL (by rw [c.hN]; exact b1) (c.toKx.vis b2) b3 b4 (okE e c.toKx a3) (okE ix c.toKx a2) (shE ix a2) (by simpa using a4)
    · cases h
  | .setK i ix e, X, sc, s, c, h => by
    unfold chkS at h
    split at h
    · obtain ⟨a1, a2, a3, a4⟩ := and4 h
      obtain ⟨b1, b2, b3, b4⟩ := visN_of a1
      exact xs_setK (by have := c.hu; omega) (by rw [c.hN]; exact b1) (c.toKx.vis b2) b3 b4 (okE e c.toKx a3) (okE ix c.toKx a2) (shE ix a2) (by simpa using a4)
    · cases h
  | .setF i x g e, X, sc, s, c, h => by
    unfold chkS at h
    split at h
    · obtain ⟨h, a5⟩ := and2 h
      obtain ⟨a1, a2, a3, a4⟩ := and4 h
      obtain ⟨b1, b2, b3, b4⟩ := visN_of a1
      cases of_decide_eq_true a2
      obtain ⟨q, hq, hq2⟩ := List.any_eq_true.mp a4
      obtain ⟨d1, d2⟩ := and2 hq2
      rw [of_decide_eq_true d1] at hq
      refine xs_setF (by rw [c.hN]; exact b1) (c.toKx.vis b2) b3 b4 (c.toKx.clsf _ _ hq) (by simpa using d2) (okE e c.toKx a3) ?_
      split at a5
      · rfl
      · rfl
      · cases a5
    · cases h
  | .appP i j e, X, sc, s, c, h => by
    unfold chkS at h
    split at h
    · obtain ⟨a1, a2, a3, a4⟩ := and4 h
      obtain ⟨a5, a6⟩ := Bool.and_eq_true_iff.mp a4
      obtain ⟨b1, b2, b3, b4⟩ := visN_of a2
      obtain ⟨d1, d2, d3, d4⟩ := and4 a3
      obtain ⟨f1, f2, f3, f4⟩ := visN_of d2
      cases of_decide_eq_true a1
      cases of_decide_eq_true d1
      exact xs_appP (of_decide_eq_true a5) (by rw [c.hN]; exact b1) (c.toKx.vis b2) b3 b4 (by rw [c.hN]; exact f1) (c.toKx.vis f2) f3 f4 (okE e c.toKx d3) (shE e d3) a6 d4
    · cases h
  | .app i e, X, sc, s, c, h => by
    unfold chkS at h
    split at h
    · obtain ⟨a1, a2, a3, a4⟩ := and4 h
      obtain ⟨b1, b2, b3, b4⟩ := visN_of a2
      cases of_decide_eq_true a1
      exact xs_app (by rw [c.hN]; exact b1) (c.toKx.vis b2) b3 b4 (okE e c.toKx a3) (shE e a3) a4
    · cases h
  | .expr e, X, sc, s, c, h => by
    unfold chkS at h
    split at h
    · obtain ⟨a1, a2⟩ := and2 h
      exact xs_expr (okE e c.toKx a1) (by simpa using a2)
    · cases h
  | .ret e, X, sc, s, c, h => by
    unfold chkS at h
    split at h
    · exact xs_ret (okE e c.toKx h)
    · cases h
  | .retN, X, sc, s, c, h => by
    unfold chkS at h
    split at h
    · exact xs_retN
    · cases h
  | .ife t a b, X, sc, s, c, h => by
    unfold chkS at h
    split at h
    · obtain ⟨a1, a2, a3⟩ := and3 h
      exact xs_ife (okT t c.toKx a1) (okSs a c a2) (okSs b c a3)
    · cases h
  | .whl t b, X, sc, s, c, h => by
    unfold chkS at h
    split at h
    · obtain ⟨a1, a2⟩ := and2 h
      exact xs_whl c.po (okT t c.toKx a1) (okSs b c a2)
    · cases h
  | .for ts it b, X, sc, s, c, h => by
    unfold chkS at h
    split at h
    · obtain ⟨h, a5⟩ := and2 h
      obtain ⟨a1, a2, a3, a4⟩ := and4 h
      have hi := okI it c.toKx a2 a1 a4
      rw [a3] at hi
      exact xs_for c.so c.calm c.po a1 hi (okSs b c a5) (setIt it a2 X.env)
    · cases h
  | .frz i t, X, sc, s, c, h => by
    unfold chkS at h
    exact xs_frz (okS t c h)
  | .asgS i e, X, sc, s, c, h => by
    unfold chkS at h
    split at h
    · obtain ⟨a1, a2, a3⟩ := and3 h
      have pl := shE e a2
      have hk : X.env.scope.kind = .function := by rw [c.hsc]; exact c.kind
      exact xs_asgS c.so a1 (okE e c.toKx a2) (by rw [swaps_is pl hk, c.hsc]; rw [Bool.not_eq_true'] at a3; rw [a3])
    · cases h
  | .asgV i e, X, sc, s, c, h => by
    unfold chkS at h
    split at h
    · obtain ⟨a1, a2, a3⟩ := and3 h
      have pl := shE e a2
      have hk : X.env.scope.kind = .function := by rw [c.hsc]; exact c.kind
      exact xs_asgV c.so a1 (okE e c.toKx a2) (by rw [swaps_is pl hk, c.hsc]; rw [Bool.not_eq_true'] at a3; rw [a3])
    · cases h
  | .spoil i, X, sc, s, c, h => by
    unfold chkS at h
    split at h
    · obtain ⟨a1, a2, a3, a4⟩ := and4 h
      cases of_decide_eq_true a1
      obtain ⟨b1, b2, b3, b4⟩ := visN_of a3
      obtain ⟨k, fa, fd, F, hr, hm, hk, hb⟩ := c.spoil (of_decide_eq_true a4)
      exact xs_spoil (E := fun _ _ _ => False) F hr (c.toKx.gl a2) hm hk hb passD (by rw [c.hN]; exact b1) (c.toKx.vis b2) b3 b4
    · cases h
  | .spoilE i e, X, sc, s, c, h => by
    unfold chkS at h
    split at h
    · obtain ⟨a1, a2, a3, a4⟩ := and4 h
      cases of_decide_eq_true a1
      obtain ⟨k, fa, fd, F, hr, hm, hk, hb⟩ := c.spoil (of_decide_eq_true a4)
      exact xs_spoilE (E := fun _ _ _ => False) F hr (c.toKx.gl a2) hm hk hb passD (okE e c.toKx a3) (shE e a3)
    · cases h
  | .appS i e, X, sc, s, c, h => by
    unfold chkS at h
    split at h
    · obtain ⟨a1, a2, a3, a4⟩ := and4 h
      obtain ⟨b1, b2, b3, b4⟩ := visN_of a2
      cases of_decide_eq_true a1
      exact xs_appS (by rw [c.hN]; exact b1) (c.toKx.vis b2) b3 b4 (okE e c.toKx a3) (shE e a3) a4
    · cases h
  | .parS i j r q, X, sc, s, c, h => by
    unfold chkS at h
    split at h
    · obtain ⟨h, a9⟩ := and2 h
      obtain ⟨h, a8⟩ := and2 h
      obtain ⟨h, a7⟩ := and2 h
      obtain ⟨h, a6⟩ := and2 h
      obtain ⟨h, a5⟩ := and2 h
      obtain ⟨a1, a2, a3, a4⟩ := and4 h
      exact xs_parS c.so c.calm c.hsc (by rw [c.hsc]; exact c.kind) a1 a2 (of_decide_eq_true a3) (of_decide_eq_true a4) (okE r c.toKx a5) (okE q c.toKx a6) (shE r a5) (shE q a6) a7 (by rw [Bool.not_eq_true'] at a8; exact a8) (by rw [Bool.not_eq_true'] at a9; exact a9)
    · cases h
  | .lateP i k, X, sc, s, c, h => by
    unfold chkS at h
    split at h
    · obtain ⟨a1, a2, a3, a4⟩ := and4 h
      cases of_decide_eq_true a1
      cases of_decide_eq_true a3
      obtain ⟨b1, b2, b3, b4⟩ := visN_of a2
      exact xs_lateP (by rw [c.hN]; exact b1) (c.toKx.vis b2) b3 b4 a4
    · cases h
  | .lateF i j, X, sc, s, c, h => by
    unfold chkS at h
    split at h
    · obtain ⟨h, a9⟩ := and2 h
      obtain ⟨h, a8⟩ := and2 h
      obtain ⟨h, a7⟩ := and2 h
      obtain ⟨h, a6⟩ := and2 h
      obtain ⟨h, a5⟩ := and2 h
      obtain ⟨a1, a2, a3, a4⟩ := and4 h
      cases of_decide_eq_true a1
      cases of_decide_eq_true a2
      cases of_decide_eq_true a3
      cases of_decide_eq_true a4
      cases of_decide_eq_true a5
      obtain ⟨b1, b2, b3, b4⟩ := visN_of a6
      obtain ⟨d1, d2, d3, d4⟩ := visN_of a7
      exact xs_lateF c.so c.calm c.po (by rw [c.hN]; exact b1) (c.toKx.vis b2) b3 b4 (by rw [c.hN]; exact d1) (c.toKx.vis d2) d3 d4 a8 a9
    · cases h
  | .pop i, X, sc, s, c, h => by
    unfold chkS at h
    split at h
    · obtain ⟨a1, a2, a3⟩ := and3 h
      cases of_decide_eq_true a1
      obtain ⟨b1, b2, b3, b4⟩ := visN_of a2
      exact xs_pop (by rw [c.hN]; exact b1) (c.toKx.vis b2) b3 b4 a3
    · cases h
  | .ext i o, X, sc, s, c, h => by
    unfold chkS at h
    split at h
    · obtain ⟨a1, a2, a3, a4⟩ := and4 h
      cases of_decide_eq_true a1
      obtain ⟨b1, b2, b3, b4⟩ := visN_of a2
      exact xs_ext (by rw [c.hN]; exact b1) (c.toKx.vis b2) b3 b4 (okO o c.toKx a3) (shO o a3) a4
    · cases h
theorem okSs : ∀ (ts : XSs) {X : Cx} {sc : Scope} {ss : List Stmt}, Sx cl N fns kws cf X sc → chkSs N fns kws ts sc ss = true → PSs X ss (tS cl (evSs cf ts))
  | .nil, X, sc, ss, c, h => by
    unfold chkSs at h
    split at h
    · exact xss_nil
    · cases h
  | .nev, X, sc, ss, c, h => xss_nev
  | .ini _ _ _, X, sc, ss, c, h => absurd h (by unfold chkSs; exact Bool.false_ne_true)
  | .cons t ts, X, sc, ss, c, h => by
    unfold chkSs at h
    split at h
    · obtain ⟨a1, a2⟩ := and2 h
      have := xss_cons (okS t c a1) (okSs ts c a2)
      exact this
    · cases h
end
end
end DL

set_option maxHeartbeats 8000000
/-! DL17: functions. -/
namespace DL
open PySem PySem.Spec PyProof.Rows L2

/-- what a table's entry is: a def, a class's method, a class's __init__ -/
inductive FKd where
  | glo
  | met (c m : Str)
  | ini (c : Str)
/-- a function of the text -/
structure FI where
  nm : Str
  qual : Str
  params : Arguments
  body : List Stmt
  scope : Scope
  ps : List Str
  N : List Str
  F : FD
  kd : FKd
def FI.name (I : FI) : Str := match I.kd with
  | .glo => I.nm
  | .met _ m => m
  | .ini _ => "__init__"
def FI.at_ (I : FI) : Str × Option Str := match I.kd with
  | .glo => (I.nm, none)
  | .met c m => (c, some m)
  | .ini c => (c, some "__init__")
def bodyB (fns : List Str) (kws : List KwS) (I : FI) : Bool := match I.kd with
  | .ini c => (match I.F.body with
    | .ini c2 cs b => decide (c2 = c) && decide (clsK c cs ∈ kws) && chkSs I.N fns kws b I.scope I.body && decide (I.F.np + 1 = I.ps.length) && decide (I.F.ns + 1 = I.N.length) && decide (1 ≤ I.F.np) && decide (I.nm = c)
    | _ => false)
  | .met _ _ => isDot I.nm && chkSs I.N fns kws I.F.body I.scope I.body && decide (I.F.np = I.ps.length) && decide (I.F.ns = I.N.length)
  | .glo => chkSs I.N fns kws I.F.body I.scope I.body && decide (I.F.np = I.ps.length) && decide (I.F.ns = I.N.length)
def FI.okB (fns : List Str) (kws : List KwS) (I : FI) : Bool := bodyB fns kws I && decide (I.ps.length ≤ I.N.length)
def FI.isI (I : FI) : Bool := match I.kd with
  | .ini _ => true
  | _ => false
theorem okB_f {fns : List Str} {kws : List KwS} {I : FI} (h : I.okB fns kws = true) (k : I.isI = false) : chkSs I.N fns kws I.F.body I.scope I.body = true ∧ I.F.np = I.ps.length ∧ I.F.ns = I.N.length ∧ I.ps.length ≤ I.N.length := by
  unfold FI.okB bodyB at h
  unfold FI.isI at k
  split at h
  · rename_i c e; rw [e] at k; cases k
  · obtain ⟨h, h4⟩ := and2 h
    obtain ⟨_, h1, h2, h3⟩ := and4 h
    exact ⟨h1, of_decide_eq_true h2, of_decide_eq_true h3, of_decide_eq_true h4⟩
  · obtain ⟨h, h4⟩ := and2 h
    obtain ⟨h1, h2, h3⟩ := and3 h
    exact ⟨h1, of_decide_eq_true h2, of_decide_eq_true h3, of_decide_eq_true h4⟩
theorem okB_i {fns : List Str} {kws : List KwS} {I : FI} {c : Str} (h : I.okB fns kws = true) (k : I.kd = .ini c) : ∃ cs b, I.F.body = .ini c cs b ∧ clsK c cs ∈ kws ∧ chkSs I.N fns kws b I.scope I.body = true ∧ I.F.np + 1 = I.ps.length ∧ I.F.ns + 1 = I.N.length ∧ 1 ≤ I.F.np ∧ I.nm = c ∧ I.ps.length ≤ I.N.length := by
  unfold FI.okB bodyB at h
  rw [k] at h
  dsimp only at h
  obtain ⟨h, h4⟩ := and2 h
  split at h
  · rename_i c2 cs b e
    obtain ⟨h, a7⟩ := and2 h
    obtain ⟨h, a6⟩ := and2 h
    obtain ⟨h, a5⟩ := and2 h
    obtain ⟨a1, a2, a3, a4⟩ := and4 h
    cases of_decide_eq_true a1
    exact ⟨cs, b, e, of_decide_eq_true a2, a3, of_decide_eq_true a4, of_decide_eq_true a5, of_decide_eq_true a6, of_decide_eq_true a7, of_decide_eq_true h4⟩
  · cases h
/-- how a table's entry stands in the program -/
def FaC (K : PySem.W.Frag) (mg : Str → Option Value) (cl : Cls0) (kws : List KwS) (g : Nat) (I : FI) (fa : Addr) (fd : FuncData) : Prop := match I.kd with
  | .glo => mg I.nm = some (.ref fa) ∧ ∀ ks m ord, (g, ks, m, ord) ∈ kws → KBinds K fd I.ps ks (gK m ks.length ord) (gK m ks.length ord)
  | .met c m => ∃ C ns, Meth K C m fa ∧ cl c = some (C, ns) ∧ m ∉ ns ∧ Cls K C
  | .ini c => (∀ ks m ord, (g, ks, m, ord) ∉ kws) ∧ ∃ C ns, Mk K C fa ∧ cl c = some (C, ns) ∧ mg c = some (.ref C)
theorem rg_self {b : Bool} {G H : Hp} : Sub (rg b G H) G := rg_sub
/-- the state at a body's entry -/
theorem SR.start {P : Pt} {G H : Hp} {n : Nat} {N : List Str} {vs : List V} {ds : List D} (r : RdL P G vs ds) (g : Sub G H) (st : Stm n P H) (gs : G P.s = none) (gl : G P.l = none) :
    SR P G H (fun _ _ => False) n (L2.start N vs) (startF N.length ds) G H := by
  refine ⟨⟨g, Sub.rfl', fun _ _ => .inl rfl, fun _ _ h _ _ => h, st, gs, gl⟩, ⟨fun _ _ _ h => h.elim, fun _ _ h => h.elim, fun _ _ h => h.elim, fun _ _ h => h.elim, fun _ _ h => h.elim, fun _ _ h => h.elim⟩, ?_, fun i s e => ?_⟩
  · unfold L2.start startF
    rw [List.length_append, List.length_append, List.length_map, List.length_map, List.length_replicate, List.length_replicate, r.length]
  · unfold startF at e
    by_cases hi : i < ds.length
    · rw [List.getElem?_append_left (by simpa using hi), List.getElem?_map] at e
      cases q : ds[i]? with
      | none => rw [q] at e; cases e
      | some d =>
        rw [q] at e
        cases e
        obtain ⟨v, h1, h2⟩ := r.get q
        refine ⟨v, ?_, ?_⟩
        · unfold L2.start
          rw [List.getElem?_append_left (by rw [List.length_map, r.length]; exact hi), List.getElem?_map, h1]; rfl
        · cases hs : d.scal with
          | false => exact h2
          | true => exact h2.scal hs
    · rw [List.getElem?_append_right (by simpa using hi), List.getElem?_replicate] at e
      split at e
      · cases e; trivial
      · cases e
/-- the state at an __init__'s entry -/
theorem SR.startI {P : Pt} {G Hb : Hp} {n : Nat} {N : List Str} {vs : List V} {ds : List D} {x dx C : Addr} {c : Str} {cs : List Str} (r : RdL P G vs ds) (g : Sub G Hb) (st : Stm n P Hb) (gs : G P.s = none) (gl : G P.l = none) (hx : Hb x = none) (hdx : Hb dx = none) (hne : dx ≠ x) (hc : P.cl c = some (C, cs)) (hl : ds.length + 1 ≤ N.length) :
    SR (P.at x) G Hb (fun i a => i = 0 ∧ a = x) n (L2.start N (.ref x :: vs)) (.o c [] [] true :: startF (N.length - 1) ds) G (L2.upd (L2.upd Hb dx (.own x)) x (.ins C dx [])) := by
  obtain ⟨ne, ns, a1, b1, c1, e1, e2, rest⟩ := st
  have sx : x ≠ P.s ∧ x ≠ P.l := ⟨fun z => (by rw [z, e1] at hx; cases hx), fun z => (by rw [z, e2] at hx; cases hx)⟩
  have sd : dx ≠ P.s ∧ dx ≠ P.l := ⟨fun z => (by rw [z, e1] at hdx; cases hdx), fun z => (by rw [z, e2] at hdx; cases hdx)⟩
  have up : ∀ a o, Hb a = some o → L2.upd (L2.upd Hb dx (.own x)) x (.ins C dx []) a = some o := fun a o e => by
    rw [upd_ne (fun z => by rw [z, hx] at e; cases e), upd_ne (fun z => by rw [z, hdx] at e; cases e)]; exact e
  refine ⟨⟨fun a o e => up a o (g a o e), Sub.rfl', fun _ _ => .inl rfl, fun a o e _ _ => up a o e, ⟨ne, ns, a1, b1, c1, up _ _ e1, up _ _ e2, rest⟩, gs, gl⟩,
    ⟨fun i j a h1 h2 => by rw [h1.1, h2.1], fun i a h => by rw [h.2, upd_same]; simp, fun i a h => ?_, fun i a h => by rw [h.2]; exact hx, fun i a h => by rw [h.2]; exact sx, fun i a h ys e => by rw [h.2, upd_same] at e; cases e⟩, ?_, fun i s e => ?_⟩
  · rw [h.2]
    cases q : G x with
    | none => rfl
    | some o => rw [g x o q] at hx; cases hx
  · simp [L2.start, startF, r.length]; omega
  · cases i with
    | zero =>
      cases e
      refine ⟨x, C, dx, cs, [], ?_, ⟨rfl, rfl⟩, ⟨hc, rfl⟩, by rw [upd_same]; rfl, rfl, .nil⟩
      unfold L2.start
      rfl
    | succ i =>
      have e : (startF (N.length - 1) ds)[i]? = some s := e
      unfold startF at e
      by_cases hi : i < ds.length
      · rw [List.getElem?_append_left (by simpa using hi), List.getElem?_map] at e
        cases q : ds[i]? with
        | none => rw [q] at e; cases e
        | some d =>
          rw [q] at e
          cases e
          obtain ⟨v, h1, h2⟩ := r.get q
          refine ⟨v, ?_, ?_⟩
          · unfold L2.start
            rw [List.getElem?_append_left (by rw [List.length_map, List.length_cons, r.length]; omega), List.getElem?_map, List.getElem?_cons_succ, h1]; rfl
          · cases hs : d.scal with
            | false => exact h2.to
            | true => exact h2.to.scal hs
      · rw [List.getElem?_append_right (by simpa using hi), List.getElem?_replicate] at e
        split at e
        · cases e; trivial
        · cases e
section
variable {P : Program} {w : World} {K : PySem.W.Frag} {mg : Str → Option Value} {base : Heap} {cl : Cls0}
theorem evF_np {T : List FD} {d g : Nat} {F : FD} (hF : T[g]? = some F) : ∀ ds n k, evF T d g ds n k → F.np = ds.length := by
  intro ds n k h
  cases d with
  | zero => exact h.elim
  | succ d =>
    unfold evF at h
    rw [hF] at h
    exact h.1
/-- the level that a depth asks -/
abbrev lvl (d : Nat) : Nat := 2 * d + 12
/-- what may be called from a body -/
theorem kx_of {tb : List FI} {kws : List KwS} (hok : ∀ I ∈ tb, I.okB (tb.map (·.nm)) kws = true ∧ FnScope I.N I.ps I.scope)
    (hfn : ∀ g I, tb[g]? = some I → ∃ fa fd, FunD K I.name I.qual I.params I.body I.scope [] [] fa fd ∧ Binds K fd I.ps [] ∧ PySem.W.keepIn K (.ref fa) = true ∧ FaC K mg cl kws g I fa fd)
    (hcl : ∀ c ns, clsK c ns ∈ kws → ∃ C, cl c = some (C, ns) ∧ ns.Nodup ∧ ClF K C ∧ (∀ f ∈ ns, NoAttr K C f) ∧ mg c = some (.ref C))
    (hme : ∀ g c m, methK g c m ∈ kws → ∃ I, tb[g]? = some I ∧ I.kd = .met c m) {d : Nat}
    (ih : ∀ (g : Nat) (I : FI) (fa : Addr) (fd : FuncData), tb[g]? = some I → FunD K I.name I.qual I.params I.body I.scope [] [] fa fd →
      (I.isI = false → FnG P w K mg base CXd (lvl d) fa I.ps fd (spF cl (evF (tb.map (·.F)) d g) I.ps.length)) ∧ (∀ c, I.kd = .ini c → FnG P w K mg base CXd (lvl d) fa I.ps fd (spI cl c (evF (tb.map (·.F)) d g) I.ps.length)))
    {X : Cx} : X.prog = P → X.w = w → X.K = K → X.mg = mg → X.base = base → Room (lvl d + 1) X.A → X.A.guards = some [] → (∀ g x, (tb.map (·.nm))[g]? = some x → FnC X cl kws g (evF (tb.map (·.F)) d g) x) ∧ (∀ c ns, clsK c ns ∈ kws → ClC X cl c ns) ∧ (∀ g c m, methK g c m ∈ kws → FnCm X cl (evF (tb.map (·.F)) d g) c m) := by
  intro e1 e2 e3 e4 e5 hr gd
  subst e1 e2 e3 e4 e5
  have npf : ∀ {g' : Nat} {J : FI}, tb[g']? = some J → ∀ ds n k, evF (tb.map (·.F)) d g' ds n k → J.F.np = ds.length := fun {g' J} hJ => evF_np (by rw [List.getElem?_map, hJ]; rfl)
  refine ⟨fun g' x hx => ?_, fun c ns h => hcl c ns h, fun g' c m h => ?_⟩
  · rw [List.getElem?_map] at hx
    obtain ⟨J, hJ, rfl⟩ := Option.map_eq_some_iff.mp hx
    obtain ⟨fa', fd', F', hb, hk, hf⟩ := hfn g' J hJ
    have oJ := (hok J (List.mem_of_getElem? hJ)).1
    have ihJ := ih g' J fa' fd' hJ F'
    cases hkd : J.kd with
    | glo =>
      have hi : J.isI = false := by unfold FI.isI; rw [hkd]
      unfold FaC at hf
      rw [hkd] at hf
      obtain ⟨o1, o2, o3, o4⟩ := okB_f oJ hi
      exact .inl ⟨lvl d, fa', fd', J.ps, ihJ.1 hi, hr.mono (by omega), hf.1, hk, hb, fun ds n k h => (npf hJ ds n k h).symm.trans o2, hf.2⟩
    | met c m =>
      refine .inr (.inr ?_)
      unfold FI.okB bodyB at oJ
      rw [hkd] at oJ
      exact (and4 (and2 oJ).1).1
    | ini c =>
      obtain ⟨cs, b, _, hk2, _, o2, _, o4, o5, _⟩ := okB_i oJ hkd
      unfold FaC at hf
      rw [hkd] at hf
      obtain ⟨hn, C, ns, M, hc, hm⟩ := hf
      refine .inr (.inl ⟨⟨lvl d, C, fa', fd', J.ps, ns, ?_, hr, hb, fun ds n k h => by have := npf hJ ds n k h; omega, M, ?_, ?_, by omega⟩, hn⟩)
      · rw [o5]; exact ihJ.2 c hkd
      · rw [o5]; exact hc
      · rw [o5]; exact hm
  · obtain ⟨J, hJ, hkd⟩ := hme g' c m h
    obtain ⟨fa', fd', F', hb, hk, hf⟩ := hfn g' J hJ
    have oJ := (hok J (List.mem_of_getElem? hJ)).1
    have hi : J.isI = false := by unfold FI.isI; rw [hkd]
    obtain ⟨o1, o2, o3, o4⟩ := okB_f oJ hi
    unfold FaC at hf
    rw [hkd] at hf
    obtain ⟨C, ns, M, hc, hmn, cC⟩ := hf
    exact ⟨lvl d, fa', fd', J.ps, C, ns, (ih g' J fa' fd' hJ F').1 hi, hr.mono (by omega), hb, fun ds n k h => (npf hJ ds n k h).symm.trans o2, M, hc, hmn, cC⟩
theorem fn_all {tb : List FI} {kws : List KwS} (hok : ∀ I ∈ tb, I.okB (tb.map (·.nm)) kws = true ∧ FnScope I.N I.ps I.scope)
    (hfn : ∀ g I, tb[g]? = some I → ∃ fa fd, FunD K I.name I.qual I.params I.body I.scope [] [] fa fd ∧ Binds K fd I.ps [] ∧ PySem.W.keepIn K (.ref fa) = true ∧ FaC K mg cl kws g I fa fd)
    (hmg : ∀ x ∈ bltNames, mg x = none)
    (hcl : ∀ c ns, clsK c ns ∈ kws → ∃ C, cl c = some (C, ns) ∧ ns.Nodup ∧ ClF K C ∧ (∀ f ∈ ns, NoAttr K C f) ∧ mg c = some (.ref C))
    (hme : ∀ g c m, methK g c m ∈ kws → ∃ I, tb[g]? = some I ∧ I.kd = .met c m)
    (hdr : ∃ (fa : Addr) (fd : FuncData) (ps : List Str), FnOk P w K mg base CXd 3 fa fd ps (spDraw cl) ∧ mg "_law_draw" = some (.ref fa) ∧ PySem.W.keepIn K (.ref fa) = true ∧ Binds K fd ps [])
    (hsp : spK ∈ kws → ∃ (fa : Addr) (fd : FuncData), FnOk P w K mg base CXd 11 fa fd ["thing"] (spSpoil 10) ∧ mg "_law_spoilt" = some (.ref fa) ∧ PySem.W.keepIn K (.ref fa) = true ∧ Binds K fd ["thing"] [])
    (hst : ∃ (fa : Addr) (fd : FuncData), FnOk P w K mg base CXd 1 fa fd ["script"] (spStream K) ∧ mg "_law_stream" = some (.ref fa) ∧ PySem.W.keepIn K (.ref fa) = true ∧ Binds K fd ["script"] [])
    (hsc : ∀ a H, cl.ok a H → ∃ ns : List Int, SqL K H a (ns.map V.int)) :
    ∀ (d g : Nat) (I : FI) (fa : Addr) (fd : FuncData), tb[g]? = some I → FunD K I.name I.qual I.params I.body I.scope [] [] fa fd →
      (I.isI = false → FnG P w K mg base CXd (lvl d) fa I.ps fd (spF cl (evF (tb.map (·.F)) d g) I.ps.length)) ∧ (∀ c, I.kd = .ini c → FnG P w K mg base CXd (lvl d) fa I.ps fd (spI cl c (evF (tb.map (·.F)) d g) I.ps.length)) := by
  intro d
  induction d with
  | zero =>
    intro g I fa fd hI F
    refine ⟨fun _ => ⟨fun vs H Q E h => ?_, fun {A outer s H args us vs Q E} gd hr he hb hv h => ?_⟩, fun c _ => ⟨fun vs H Q E h => ?_, fun {A outer s H args us vs Q E} gd hr he hb hv h => ?_⟩⟩
    · obtain ⟨P, G, n, ds, K, _, _, _, _, _, _, _, e, _⟩ := h; exact e.elim
    · obtain ⟨P, G, n, ds, K, _, _, _, _, _, _, _, e, _⟩ := h; exact e.elim
    · obtain ⟨P, G, Hb, n, ds, K, x, dx, C, cs, ws, _, _, _, _, _, _, _, _, _, _, _, _, _, e, _⟩ := h; exact e.elim
    · obtain ⟨P, G, Hb, n, ds, K, x, dx, C, cs, ws, _, _, _, _, _, _, _, _, _, _, _, _, _, e, _⟩ := h; exact e.elim
  | succ d ih =>
    intro g I fa fd hI F
    obtain ⟨o, S⟩ := hok I (List.mem_of_getElem? hI)
    have kx := fun {X : Cx} => kx_of (X := X) hok hfn hcl hme ih
    refine ⟨fun hi => ?_, fun c hkd => ?_⟩
    · obtain ⟨o1, o2, o3, o4⟩ := okB_f o hi
      refine fnG_of (k := lvl d + 1) F S (fun vs H Q E h => ?_) fun cdv A outer s H vs Q E gd hr h => ?_
      · obtain ⟨P, G, n, ds, K, _, r, l, _⟩ := h
        exact r.length.trans l
      · refine ⟨tS cl (evSs (evF (tb.map (·.F)) d) I.F.body), PSs.nox ?_, ?_⟩
        · obtain ⟨k1, k2, k3⟩ := kx (X := (cxOf CXd P w K mg base I.N I.qual I.scope fa cdv A outer s H (fun _ _ _ => False))) rfl rfl rfl rfl rfl hr gd
          refine okSs (N := I.N) (fns := tb.map (·.nm)) (kws := kws) I.F.body (sc := I.scope) ⟨⟨rfl, S.nd, rfl, S.kind, rfl, hmg, hr.units, gd, ?_, ?_, ?_, ?_, fun hs => ?_, ?_⟩, ⟨rfl, S.nd, fun x hx => ⟨hx, .inl rfl⟩⟩, PassesOwn.never⟩ o1
          · exact k1
          · obtain ⟨fa', fd', ps, F', hm, hk, hb⟩ := hdr
            exact ⟨3, fa', fd', ps, F', hr.mono (by unfold lvl; omega), hm, hk, hb⟩
          · exact k2
          · exact k3
          · obtain ⟨fa', fd', F', hm, hk, hb⟩ := hsp hs
            exact ⟨11, fa', fd', F', hr.mono (by unfold lvl; omega), hm, hk, hb⟩
          · obtain ⟨fa', fd', F', hm, hk, hb⟩ := hst
            exact ⟨⟨1, fa', fd', F', hr.mono (by unfold lvl; omega), hm, hk, hb⟩, hsc⟩
        · obtain ⟨P, G, n, ds, K, hc, r, l, g, st, gs, gl, e, post⟩ := h
          unfold evF at e
          rw [List.getElem?_map, hI] at e
          have e' : I.F.np = ds.length ∧ evSs (evF (tb.map (·.F)) d) I.F.body ⟨fun _ n => K (.non, true) n, K, fun _ _ => False⟩ (startF I.F.ns ds) n := e
          have e2 := e'.2
          rw [o3] at e2
          have leB : ∀ {n' G' H'}, Bs P G H n' G' H' → Le P G H G' H' := fun b => ⟨b.g0, b.gx, b.h0⟩
          exact ⟨P, G, H, _, n, _, G, _, hc, SR.start r g st gs gl, e2, fun f' n' hk W' σ' G' H' _ S' => post _ _ hk _ G' H' (leB S'.bs) S'.bs.gh S'.bs.st .non, fun r' n' hk v G' H' b q => post _ _ hk v G' H' (leB b) b.gh b.st q, fun _ _ z => z.elim⟩
    · obtain ⟨cs, b, hbody, hk2, o1, o2, o3, o4, o5, o6⟩ := okB_i o hkd
      obtain ⟨C0, hc0, _⟩ := hcl c cs hk2
      refine fnG_of (k := lvl d + 1) F S (fun vs H Q E h => ?_) fun cdv A outer s H vs Q E gd hr h => ?_
      · obtain ⟨P, G, Hb, n, ds, K, x, dx, C, cs', ws, _, _, hv, r, l, _⟩ := h
        rw [hv, List.length_cons, r.length]; exact l
      · refine ⟨tS cl (evSs (evF (tb.map (·.F)) d) b), PSs.nox ?_, ?_⟩
        · obtain ⟨k1, k2, k3⟩ := kx (X := (cxOf CXd P w K mg base I.N I.qual I.scope fa cdv A outer s H (fun _ _ _ => False))) rfl rfl rfl rfl rfl hr gd
          refine okSs (N := I.N) (fns := tb.map (·.nm)) (kws := kws) b (sc := I.scope) ⟨⟨rfl, S.nd, rfl, S.kind, rfl, hmg, hr.units, gd, ?_, ?_, ?_, ?_, fun hs => ?_, ?_⟩, ⟨rfl, S.nd, fun x hx => ⟨hx, .inl rfl⟩⟩, PassesOwn.never⟩ o1
          · exact k1
          · obtain ⟨fa', fd', ps, F', hm, hk, hb⟩ := hdr
            exact ⟨3, fa', fd', ps, F', hr.mono (by unfold lvl; omega), hm, hk, hb⟩
          · exact k2
          · exact k3
          · obtain ⟨fa', fd', F', hm, hk, hb⟩ := hsp hs
            exact ⟨11, fa', fd', F', hr.mono (by unfold lvl; omega), hm, hk, hb⟩
          · obtain ⟨fa', fd', F', hm, hk, hb⟩ := hst
            exact ⟨⟨1, fa', fd', F', hr.mono (by unfold lvl; omega), hm, hk, hb⟩, hsc⟩
        · obtain ⟨P, G, Hb, n, ds, K, x, dx, C, cs', ws, hP, hc, hv, r, l, hH, hx, hdx, hne, g, st, gs, gl, e, post⟩ := h
          rw [hc0] at hc
          cases hc
          unfold evF at e
          rw [List.getElem?_map, hI] at e
          have e' : I.F.np = ds.length ∧ evSs (evF (tb.map (·.F)) d) I.F.body ⟨fun _ n => K (.non, true) n, K, fun _ _ => False⟩ (startF I.F.ns ds) n := e
          have e2 := e'.2
          rw [hbody] at e2
          have e3 : evSs (evF (tb.map (·.F)) d) b ⟨fun f' n' => ∃ xs fb, f'[0]? = some (.o c cs xs fb) ∧ cs.length = xs.length ∧ K (.ins c xs, fb) n', fun _ _ => False, fun _ _ => False⟩ (.o c [] [] true :: startF I.F.ns ds) n := e2
          rw [show I.F.ns = I.N.length - 1 by omega] at e3
          subst hv
          subst hH
          refine ⟨P.at x, G, Hb, _, n, _, G, _, hP, SR.startI r g st gs gl hx hdx hne (by rw [hP]; exact hc0) (by omega), e3, fun f' n' ⟨xs, fb, hf, hl, hk⟩ W' σ' G' H' _ S' => ?_, fun _ _ z => z.elim, fun _ _ z => z.elim⟩
          obtain ⟨q, C2, dx2, cs2, vs2, e1, wq, ⟨hc2, hme⟩, hq, ll, rr⟩ := S'.sl 0 _ hf
          have hme : q = x := hme
          subst hme
          have hgq : G' q = none := S'.wk.g 0 q wq
          have u1 : L2.upd H' q (.ins C2 dx2 (cs.zip vs2)) = H' := by
            funext a
            unfold L2.upd
            split
            · rename_i z; rw [z]; exact hq.symm
            · rfl
          have sub : Sub G' (L2.upd G' q (.ins C2 dx2 (cs.zip vs2))) := fun a o z => by
            have : a ≠ q := fun y => by rw [y, hgq] at z; cases z
            rw [upd_ne this]; exact z
          have hc3 : P.cl c = some (C2, cs2) := hc2
          rw [hP, hc0] at hc3
          cases hc3
          refine post _ _ hk (L2.upd G' q (.ins C0 dx2 (cs.zip vs2))) H' ⟨fun a o z => sub a o (S'.bs.g0 a o z), fun a z => ?_, S'.bs.h0⟩ (fun a o z => ?_) S'.bs.st ?_
          · have : a ≠ q := fun y => z (by rw [y]; exact hx)
            rw [upd_ne this]; exact S'.bs.gx a z
          · by_cases y : a = q
            · rw [y, upd_same] at z
              rw [y, hq]; exact z
            · rw [upd_ne y] at z; exact S'.bs.gh a o z
          · refine .ins (by rw [hP]; exact hc0) (rg_at upd_same hx) ll ?_
            exact (rr.mono (rg_mono sub)).fro
end
end DL

set_option maxHeartbeats 8000000
/-! DL18: the law's stream and its draws. -/
namespace DL
open PySem PySem.Spec PyProof.Rows L2

abbrev streamB (q1 q2 q3 q4 q5 q6 q7 q8 : Pos) : List Stmt := [ (PySem.Stmt.Return (value := (some (PySem.Expr.List (elts := [ (PySem.Expr.Call (func := (PySem.Expr.Name "list" q1)) (args := [(PySem.Expr.Name "script" q2)]) (keywords := []) (pos := q3)), (PySem.Expr.Constant (PySem.Const.int 0) 0 q4), (PySem.Expr.Constant (PySem.Const.int 0) 0 q5), (PySem.Expr.Constant (PySem.Const.int 19) 0 q6)]) (pos := q7)))) (pos := q8))]
abbrev drawB (q1 q2 q3 q4 q5 q6 q7 q8 q9 q10 q11 q12 q13 q14 q15 q16 q17 q18 q19 q20 q21 q22 q23 q24 q25 q26 q27 q28 q29 q30 q31 q32 q33 q34 q35 q36 q37 q38 q39 q40 q41 q42 q43 q44 q45 q46 q47 q48 q49 q50 q51 q52 q53 q54 q55 q56 q57 q58 q59 q60 q61 q62 q63 q64 q65 q66 q67 q68 q69 q70 q71 q72 q73 q74 q75 q76 q77 q78 q79 q80 q81 q82 q83 q84 q85 q86 q87 q88 q89 q90 q91 q92 q93 q94 q95 q96 q97 q98 q99 q100 q101 q102 q103 q104 q105 q106 q107 q108 q109 q110 q111 q112 q113 q114 q115 q116 q117 q118 q119 q120 q121 q122 q123 q124 q125 : Pos) : List Stmt := [ (PySem.Stmt.Assign (targets := [ (PySem.Expr.Subscript (value := (PySem.Expr.Name "stream" q1)) (slice := (PySem.Expr.Constant (PySem.Const.int 2) 0 q2)) (pos := q3))]) (value := (PySem.Expr.BinOp (left := (PySem.Expr.Subscript (value := (PySem.Expr.Name "stream" q4)) (slice := (PySem.Expr.Constant (PySem.Const.int 2) 0 q5)) (pos := q6))) (op := PySem.Operator.Add) (right := (PySem.Expr.Constant (PySem.Const.int 1) 0 q7)) (pos := q8))) (pos := q9)), (PySem.Stmt.While (test := (PySem.Expr.BoolOp (op := PySem.BoolOp.And) (values := [ (PySem.Expr.Compare (left := (PySem.Expr.Subscript (value := (PySem.Expr.Name "stream" q10)) (slice := (PySem.Expr.Constant (PySem.Const.int 1) 0 q11)) (pos := q12))) (ops := [PySem.CmpOp.Eq]) (comparators := [(PySem.Expr.Constant (PySem.Const.int 0) 0 q13)]) (pos := q14)), (PySem.Expr.Compare (left := (PySem.Expr.Subscript (value := (PySem.Expr.Name "stream" q15)) (slice := (PySem.Expr.Constant (PySem.Const.int 0) 0 q16)) (pos := q17))) (ops := [PySem.CmpOp.NotEq]) (comparators := [(PySem.Expr.List [] q18)]) (pos := q19))]) (pos := q20))) (body := [ (PySem.Stmt.Assign (targets := [(PySem.Expr.Name "cell" q21)]) (value := (PySem.Expr.Call (func := (PySem.Expr.Name "abs" q22)) (args := [ (PySem.Expr.Call (func := (PySem.Expr.Attribute (value := (PySem.Expr.Subscript (value := (PySem.Expr.Name "stream" q23)) (slice := (PySem.Expr.Constant (PySem.Const.int 0) 0 q24)) (pos := q25))) (attr := "pop") (pos := q26))) (args := [(PySem.Expr.Constant (PySem.Const.int 0) 0 q27)]) (keywords := []) (pos := q28))]) (keywords := []) (pos := q29))) (pos := q30)), (PySem.Stmt.Assign (targets := [ (PySem.Expr.Subscript (value := (PySem.Expr.Name "stream" q31)) (slice := (PySem.Expr.Constant (PySem.Const.int 3) 0 q32)) (pos := q33))]) (value := (PySem.Expr.BinOp (left := (PySem.Expr.Call (func := (PySem.Expr.Name "int" q34)) (args := [ (PySem.Expr.BinOp (left := (PySem.Expr.BinOp (left := (PySem.Expr.BinOp (left := (PySem.Expr.Subscript (value := (PySem.Expr.Name "stream" q35)) (slice := (PySem.Expr.Constant (PySem.Const.int 3) 0 q36)) (pos := q37))) (op := PySem.Operator.Mult) (right := (PySem.Expr.Constant (PySem.Const.int 6151) 0 q38)) (pos := q39))) (op := PySem.Operator.Add) (right := (PySem.Expr.Name "cell" q40)) (pos := q41))) (op := PySem.Operator.Add) (right := (PySem.Expr.Constant (PySem.Const.int 7) 0 q42)) (pos := q43))]) (keywords := []) (pos := q44))) (op := PySem.Operator.Mod) (right := (PySem.Expr.Constant (PySem.Const.int 2147483629) 0 q45)) (pos := q46))) (pos := q47)), (PySem.Stmt.Assign (targets := [ (PySem.Expr.Subscript (value := (PySem.Expr.Name "stream" q48)) (slice := (PySem.Expr.Constant (PySem.Const.int 1) 0 q49)) (pos := q50))]) (value := (PySem.Expr.IfExp (test := (PySem.Expr.Compare (left := (PySem.Expr.Name "cell" q51)) (ops := [PySem.CmpOp.GtE]) (comparators := [ (PySem.Expr.BinOp (left := (PySem.Expr.Constant (PySem.Const.int 10) 0 q52)) (op := PySem.Operator.Pow) (right := (PySem.Expr.Constant (PySem.Const.int 18) 0 q53)) (pos := q54))]) (pos := q55))) (body := (PySem.Expr.Name "cell" q56)) (orelse := (PySem.Expr.Constant (PySem.Const.int 0) 0 q57)) (pos := q58))) (pos := q59))]) (orelse := []) (pos := q60)), (PySem.Stmt.If (test := (PySem.Expr.Compare (left := (PySem.Expr.Subscript (value := (PySem.Expr.Name "stream" q61)) (slice := (PySem.Expr.Constant (PySem.Const.int 1) 0 q62)) (pos := q63))) (ops := [PySem.CmpOp.Gt]) (comparators := [(PySem.Expr.Constant (PySem.Const.int 0) 0 q64)]) (pos := q65))) (body := [ (PySem.Stmt.Assign (targets := [(PySem.Expr.Name "digit" q66)]) (value := (PySem.Expr.BinOp (left := (PySem.Expr.Call (func := (PySem.Expr.Name "int" q67)) (args := [ (PySem.Expr.Subscript (value := (PySem.Expr.Name "stream" q68)) (slice := (PySem.Expr.Constant (PySem.Const.int 1) 0 q69)) (pos := q70))]) (keywords := []) (pos := q71))) (op := PySem.Operator.Mod) (right := (PySem.Expr.Name "many" q72)) (pos := q73))) (pos := q74)), (PySem.Stmt.Assign (targets := [ (PySem.Expr.Subscript (value := (PySem.Expr.Name "stream" q75)) (slice := (PySem.Expr.Constant (PySem.Const.int 1) 0 q76)) (pos := q77))]) (value := (PySem.Expr.BinOp (left := (PySem.Expr.Subscript (value := (PySem.Expr.Name "stream" q78)) (slice := (PySem.Expr.Constant (PySem.Const.int 1) 0 q79)) (pos := q80))) (op := PySem.Operator.FloorDiv) (right := (PySem.Expr.Name "many" q81)) (pos := q82))) (pos := q83)), (PySem.Stmt.Return (some (PySem.Expr.Name "digit" q84)) q85)]) (orelse := []) (pos := q86)), (PySem.Stmt.Assign (targets := [(PySem.Expr.Name "mixed" q87)]) (value := (PySem.Expr.BinOp (left := (PySem.Expr.Call (func := (PySem.Expr.Name "int" q88)) (args := [ (PySem.Expr.BinOp (left := (PySem.Expr.BinOp (left := (PySem.Expr.BinOp (left := (PySem.Expr.Subscript (value := (PySem.Expr.Name "stream" q89)) (slice := (PySem.Expr.Constant (PySem.Const.int 3) 0 q90)) (pos := q91))) (op := PySem.Operator.Add) (right := (PySem.Expr.BinOp (left := (PySem.Expr.Constant (PySem.Const.int 8191) 0 q92)) (op := PySem.Operator.Mult) (right := (PySem.Expr.Subscript (value := (PySem.Expr.Name "stream" q93)) (slice := (PySem.Expr.Constant (PySem.Const.int 2) 0 q94)) (pos := q95))) (pos := q96))) (pos := q97))) (op := PySem.Operator.Add) (right := (PySem.Expr.Constant (PySem.Const.int 50021) 0 q98)) (pos := q99))) (op := PySem.Operator.Pow) (right := (PySem.Expr.Constant (PySem.Const.int 5) 0 q100)) (pos := q101))]) (keywords := []) (pos := q102))) (op := PySem.Operator.Mod) (right := (PySem.Expr.Constant (PySem.Const.int 2147483587) 0 q103)) (pos := q104))) (pos := q105)), (PySem.Stmt.Return (value := (some (PySem.Expr.BinOp (left := (PySem.Expr.BinOp (left := (PySem.Expr.Call (func := (PySem.Expr.Name "int" q106)) (args := [ (PySem.Expr.BinOp (left := (PySem.Expr.BinOp (left := (PySem.Expr.BinOp (left := (PySem.Expr.BinOp (left := (PySem.Expr.Name "mixed" q107)) (op := PySem.Operator.Mult) (right := (PySem.Expr.Constant (PySem.Const.int 40009) 0 q108)) (pos := q109))) (op := PySem.Operator.Add) (right := (PySem.Expr.BinOp (left := (PySem.Expr.Constant (PySem.Const.int 20011) 0 q110)) (op := PySem.Operator.Mult) (right := (PySem.Expr.Subscript (value := (PySem.Expr.Name "stream" q111)) (slice := (PySem.Expr.Constant (PySem.Const.int 2) 0 q112)) (pos := q113))) (pos := q114))) (pos := q115))) (op := PySem.Operator.Add) (right := (PySem.Expr.Constant (PySem.Const.int 31) 0 q116)) (pos := q117))) (op := PySem.Operator.Pow) (right := (PySem.Expr.Constant (PySem.Const.int 3) 0 q118)) (pos := q119))]) (keywords := []) (pos := q120))) (op := PySem.Operator.Mod) (right := (PySem.Expr.Constant (PySem.Const.int 1000000009) 0 q121)) (pos := q122))) (op := PySem.Operator.Mod) (right := (PySem.Expr.Name "many" q123)) (pos := q124)))) (pos := q125))]
/-! ### small readings -/
section
variable {K : PySem.W.Frag} {σ : L2.St} {H : Hp} {s l : Addr} {xs : List V} {i : Int} {v : V} {Q : VK}
theorem rd_at (h0 : σ[0]? = some (some (.ref s))) (hs : H s = some (.lst xs)) (hi : atI xs i = some v) (q : Q v H) : tOp (rIx K) (tVar 0) (tC (.int i)) σ H Q := ⟨_, h0, .inl ⟨s, xs, i, v, rfl, rfl, SqL.of hs, hi, q⟩⟩
theorem wr_at {Q : L2.St → Hp → Prop} {j : Nat} (h0 : σ[0]? = some (some (.ref s))) (hs : H s = some (.lst xs)) (hi : ixN xs.length i = some j) (q : Q σ (upd H s (.lst (xs.set j v)))) : gSub (tVar 0) (tC (.int i)) rSetL v σ H Q := ⟨_, h0, s, xs, i, j, rfl, rfl, hs, hi, q⟩
end
/-- the stream's cells hold -/
structure DSt (s l : Addr) (H0 : Hp) (ns : List Int) (a b c : Int) (H : Hp) : Prop where
  ne : s ≠ l
  hs : H s = some (.lst [.ref l, .int a, .int b, .int c])
  hl : H l = some (.lst (ns.map V.int))
  fr : ∀ p o, H0 p = some o → p ≠ s → p ≠ l → H p = some o
theorem DSt.setS {s l : Addr} {H0 H : Hp} {ns : List Int} {a b c : Int} (d : DSt s l H0 ns a b c H) {a' b' c' : Int} {o : HO} (e : o = .lst [.ref l, .int a', .int b', .int c']) : DSt s l H0 ns a' b' c' (upd H s o) := by
  subst e
  exact ⟨d.ne, upd_same, by rw [upd_ne (Ne.symm d.ne)]; exact d.hl, fun p o e h1 h2 => by rw [upd_ne h1]; exact d.fr p o e h1 h2⟩
theorem DSt.setL {s l : Addr} {H0 H : Hp} {ns ms : List Int} {a b c : Int} (d : DSt s l H0 ns a b c H) {o : HO} (e : o = .lst (ms.map V.int)) : DSt s l H0 ms a b c (upd H l o) := by
  subst e
  exact ⟨d.ne, by rw [upd_ne d.ne]; exact d.hs, upd_same, fun p o e h1 h2 => by rw [upd_ne h2]; exact d.fr p o e h1 h2⟩
theorem DSt.new {s l p : Addr} {H0 H : Hp} {ns : List Int} {a b c : Int} {o : HO} (d : DSt s l H0 ns a b c H) (h : H p = none) : DSt s l H0 ns a b c (upd H p o) := by
  have h1 : s ≠ p := fun z => by rw [← z, d.hs] at h; cases h
  have h2 : l ≠ p := fun z => by rw [← z, d.hl] at h; cases h
  refine ⟨d.ne, by rw [upd_ne h1]; exact d.hs, by rw [upd_ne h2]; exact d.hl, fun q u e z1 z2 => ?_⟩
  have := d.fr q u e z1 z2
  by_cases y : q = p
  · rw [y, h] at this; cases this
  · rw [upd_ne y]; exact this
theorem canInts : ∀ ns : List Int, PyData.canLayAll0 (ns.map PyData.int) = true ∧ PyData.depthAll (ns.map PyData.int) = 0
  | [] => ⟨by rw [List.map_nil, PyData.canLayAll0], by rw [List.map_nil, PyData.depthAll]⟩
  | n :: ns => by
    obtain ⟨h1, h2⟩ := canInts ns
    rw [List.map_cons, PyData.canLayAll0, PyData.depthAll, h1, h2, PyData.canLay0, PyData.depth]
    exact ⟨rfl, rfl⟩
theorem shapedInts (ns : List Int) : SeqAt.shaped (.list (ns.map PyData.int)) = true := by
  unfold SeqAt.shaped
  rw [PyData.canLay0, PyData.depth, (canInts ns).1, (canInts ns).2]
  rfl
theorem dpInts {K : PySem.W.Frag} {H : Hp} : ∀ ns : List Int, DpAll K H (ns.map V.int) (ns.map PyData.int)
  | [] => .nil
  | n :: ns => .cons (.int n) (dpInts ns)
theorem eqv_nil (ns : List Int) : PyData.eqv (.list (ns.map PyData.int)) (.list []) = ns.isEmpty := by
  cases ns with
  | nil => decide
  | cons n ns => rfl
/-! ### the draw -/
abbrev dN : List Str := ["stream", "many", "cell", "digit", "mixed"]
theorem abs_if (x : Int) : 0 ≤ (if x < 0 then -x else x) := by split <;> omega
section
variable {X : Cx}
structure DC (X : Cx) : Prop where
  hN : X.N = dN
  loc : ∀ x ∈ dN, X.env.scope.names.lookup x = some .local
  gA : Gl X "abs"
  gI : Gl X "int"
  mA : X.mg "abs" = none
  mI : X.mg "int" = none
  hu : X.A.units + 64 < cLine
  po : PassesOwn (model X.prog X.w) X.A X.env X.xe
theorem DC.vr (c : DC X) {i : Nat} {x : Str} {p : Pos} (h : dN[i]? = some x) (h1 : (x == ("__debug__" : Str)) = false := by decide) (h2 : (x == ("__classdict__" : Str)) = false := by decide) : PE X (.Name x p) (tVar i) :=
  pe_var (by rw [c.hN]; exact h) (.inl (c.loc x (List.mem_of_getElem? h))) h1 h2
abbrev rAI : R2 := rI0 fun i j => .int (i + j)
abbrev rMuI : R2 := rI CMul fun i j => .int (i * j)
abbrev rMoI : R2 := rI (fun _ j => 0 < j) fun i j => .int (i % j)
abbrev rPoI : R2 := rI CPow fun i j => .int (i ^ j.toNat)
abbrev rDvI : R2 := rI CDivW fun i j => .int (i / j)
abbrev rAbsI : List V → Hp → VK → Prop := fun xs H Q => ∃ i, xs = [.int i] ∧ Q (.int (if i < 0 then -i else i)) H
abbrev rIntI : List V → Hp → VK → Prop := fun xs H Q => (∃ i, xs = [.int i] ∧ Q (.int i) H) ∨ ∃ k, xs = [.bl k] ∧ Q (.int (if k then 1 else 0)) H
abbrev sb (K : PySem.W.Frag) (i : Int) : TE := tOp (rIx K) (tVar 0) (tC (.int i))
abbrev ci (i : Int) : TE := tC (.int i)
abbrev ws (i : Int) : TG := gSub (tVar 0) (tC (.int i)) rSetL
abbrev one1 (t : TE) : TA := tCons t tNil
def tD1 (K : PySem.W.Frag) : TS := tAsg (tOp rAI (sb K 2) (ci 1)) (ws 2)
def tDc (K : PySem.W.Frag) : TT := tAnd (tTest (tOp rEq (sb K 1) (ci 0))) (tTest (tOp (rNeD K) (sb K 0) (tLst tNil)))
def tDb (K : PySem.W.Frag) : TS := tSeq (tAsg (tCB rAbsI (one1 (tBM K "list" rPopAt (sb K 0) (one1 (ci 0))))) (gName 2))
  (tSeq (tAsg (tOp rMoI (tCB rIntI (one1 (tOp rAI (tOp rAI (tOp rMuI (sb K 3) (ci 6151)) (tVar 2)) (ci 7)))) (ci 2147483629)) (ws 3))
    (tAsg (tIf (tTest (tOp (rI0 fun i j => .bl (decide (j ≤ i))) (tVar 2) (tOp rPoI (ci 10) (ci 18)))) (tVar 2) (ci 0)) (ws 1)))
def tD3 (K : PySem.W.Frag) : TS := tSeq (tAsg (tOp rMoI (tCB rIntI (one1 (sb K 1))) (tVar 1)) (gName 3)) (tSeq (tAsg (tOp rDvI (sb K 1) (tVar 1)) (ws 1)) (tRet (tVar 3)))
def tD4 (K : PySem.W.Frag) : TS := tSeq (tAsg (tOp rMoI (tCB rIntI (one1 (tOp rPoI (tOp rAI (tOp rAI (sb K 3) (tOp rMuI (ci 8191) (sb K 2))) (ci 50021)) (ci 5)))) (ci 2147483587)) (gName 4))
  (tRet (tOp rMoI (tOp rMoI (tCB rIntI (one1 (tOp rPoI (tOp rAI (tOp rAI (tOp rMuI (tVar 4) (ci 40009)) (tOp rMuI (ci 20011) (sb K 2))) (ci 31)) (ci 3)))) (ci 1000000009)) (tVar 1)))
def tDraw (K : PySem.W.Frag) : TS := tSeq (tD1 K) (tSeq (tWhile (tDc K) (tDb K)) (tSeq (tIfS (tTest (tOp (rI0 fun i j => .bl (decide (j < i))) (sb K 1) (ci 0))) (tD3 K) tNext) (tD4 K)))
theorem pss_draw {q1 q2 q3 q4 q5 q6 q7 q8 q9 q10 q11 q12 q13 q14 q15 q16 q17 q18 q19 q20 q21 q22 q23 q24 q25 q26 q27 q28 q29 q30 q31 q32 q33 q34 q35 q36 q37 q38 q39 q40 q41 q42 q43 q44 q45 q46 q47 q48 q49 q50 q51 q52 q53 q54 q55 q56 q57 q58 q59 q60 q61 q62 q63 q64 q65 q66 q67 q68 q69 q70 q71 q72 q73 q74 q75 q76 q77 q78 q79 q80 q81 q82 q83 q84 q85 q86 q87 q88 q89 q90 q91 q92 q93 q94 q95 q96 q97 q98 q99 q100 q101 q102 q103 q104 q105 q106 q107 q108 q109 q110 q111 q112 q113 q114 q115 q116 q117 q118 q119 q120 q121 q122 q123 q124 q125 : Pos} (c : DC X) (hl : (q26.endLine == q28.line) = true) : PSs X (drawB q1 q2 q3 q4 q5 q6 q7 q8 q9 q10 q11 q12 q13 q14 q15 q16 q17 q18 q19 q20 q21 q22 q23 q24 q25 q26 q27 q28 q29 q30 q31 q32 q33 q34 q35 q36 q37 q38 q39 q40 q41 q42 q43 q44 q45 q46 q47 q48 q49 q50 q51 q52 q53 q54 q55 q56 q57 q58 q59 q60 q61 q62 q63 q64 q65 q66 q67 q68 q69 q70 q71 q72 q73 q74 q75 q76 q77 q78 q79 q80 q81 q82 q83 q84 q85 q86 q87 q88 q89 q90 q91 q92 q93 q94 q95 q96 q97 q98 q99 q100 q101 q102 q103 q104 q105 q106 q107 q108 q109 q110 q111 q112 q113 q114 q115 q116 q117 q118 q119 q120 q121 q122 q123 q124 q125) (tDraw X.K) := by
  have sbE : ∀ {i : Int} {p1 p2 p3 : Pos}, PE X (.Subscript (.Name "stream" p1) (.Constant (.int i) 0 p2) p3) (sb X.K i) := fun {i p1 p2 p3} => pe_ix ix_seq (c.vr (i := 0) rfl) pe_int fun _ _ => rfl
  have wsE : ∀ {i : Int} {p1 p2 p3 : Pos}, PG X (.Subscript (.Name "stream" p1) (.Constant (.int i) 0 p2) p3) (ws i) := fun {i p1 p2 p3} => pg_sub (c.vr (i := 0) rfl) pe_int set_list
  have nm : ∀ {i : Nat} {x : Str} {p : Pos} {e : Expr} {te : TE} {q : Pos}, dN[i]? = some x → PE X e te → swapsWithSole [.Name x p] e q.line X.env = pure false → swappedStores [.Name x p] e X.env = pure none → (assignEach [.Name x p] X.env).map (·.2) = [assign (.Name x p) X.env] → PS X (.Assign [.Name x p] e q) (tAsg te (gName i)) := fun {i x p e te q} h he h1 h2 h3 =>
    ps_asg he (pg_name (by rw [c.hN]; decide) (by rw [c.hN]; exact h) (.inl (c.loc x (List.mem_of_getElem? h))) (.inr (c.loc x (List.mem_of_getElem? h)))) h1 h2 h3
  have absE : ∀ {e : Expr} {te : TE} {p q : Pos}, PE X e te → starEach [e] X.env = (false, eval e X.env) :: starEach [] X.env → PE X (.Call (.Name "abs" p) [e] [] q) (tCB rAbsI (one1 te)) := fun {e te p q} he hs => pe_callB call_abs c.gA c.mA PyProof.Rows.boot_abs (pa_cons he pa_nil hs) (by decide) (by decide) hs rfl
  have intE : ∀ {e : Expr} {te : TE} {p q : Pos}, PE X e te → starEach [e] X.env = (false, eval e X.env) :: starEach [] X.env → PE X (.Call (.Name "int" p) [e] [] q) (tCB rIntI (one1 te)) := fun {e te p q} he hs => pe_callTy call_int1 c.gI c.mI PyProof.Rows.boot_int (pa_cons he pa_nil hs) (by decide) (by decide) hs rfl
  have popE : ∀ {o : Expr} {to : TE} {ap cp p : Pos}, PE X o to → attributeBase o "pop" X.env (eval o X.env) = eval o X.env → (ap.endLine == cp.line) = true → PE X (.Call (.Attribute o "pop" ap) [.Constant (.int 0) 0 p] [] cp) (tBM X.K "list" rPopAt to (one1 (ci 0))) := fun {o to ap cp p} ho hb hl =>
    pe_bm PySem.F.plainAttrs_list PySem.F.slot_list_pop PySem.F.type_list_pop mt_popAt ho (pa_cons pe_int pa_nil) hb rfl hl rfl rfl
  refine pss_cons (ps_asg (pe_op op_add sbE pe_int) wsE) (pss_cons (ps_while c.po (PW.pt (pw_and (pt_cmpR op_eq sbE pe_int rfl) (pw_and1 (pt_cmpR (op_neD c.hu) sbE (pe_lst pa_nil) rfl)))) ?_) (pss_cons (ps_if (pt_cmpR op_gt sbE pe_int rfl) ?_ pss_nil) ?_))
  · refine pss_cons (nm rfl (absE (popE sbE rfl hl) rfl) rfl rfl rfl) (pss_cons (ps_asg (pe_op op_mod (intE (pe_op op_add (pe_op op_add (pe_op op_mul sbE pe_int) (c.vr rfl)) pe_int) rfl) pe_int) wsE) (pss_one (ps_asg (pe_ifExp (pt_cmpR op_ge (c.vr rfl) (pe_op op_pow pe_int pe_int) rfl) (c.vr rfl) pe_int) wsE)))
  · exact pss_cons (nm rfl (pe_op op_mod (intE sbE rfl) (c.vr rfl)) rfl rfl rfl) (pss_cons (ps_asg (pe_op op_fdivW sbE (c.vr rfl)) wsE) (pss_one (ps_ret (c.vr rfl))))
  · exact pss_cons (nm rfl (pe_op op_mod (intE (pe_op op_pow (pe_op op_add (pe_op op_add sbE (pe_op op_mul pe_int sbE)) pe_int) pe_int) rfl) pe_int) rfl rfl rfl) (pss_one (ps_ret (pe_op op_mod (pe_op op_mod (intE (pe_op op_pow (pe_op op_add (pe_op op_add (pe_op op_mul (c.vr rfl) pe_int) (pe_op op_mul pe_int sbE)) pe_int) pe_int) rfl) pe_int) (c.vr rfl))))
end
theorem ci_ret {i : Int} {σ : L2.St} {H : Hp} {Q : VK} (q : Q (.int i) H) : tC (.int i) σ H Q := q
theorem draw_tail {K : PySem.W.Frag} {P : Pt} {H0 : Hp} {Q : VK} {m b : Int} {n : Nat} (h1 : 0 < m) (h2 : m < 2 ^ 62) (hb0 : 0 ≤ b) (hb : b + n ≤ 2 ^ 40)
    (fin : ∀ (d : Int) (H' : Hp), 0 ≤ d → d < m → (∀ a o, H0 a = some o → a ≠ P.s → a ≠ P.l → H' a = some o) → Stm n P H' → Q (.int d) H') :
    ∀ (ns : List Int) (a c : Int) (x2 x3 x4 : Option V) (H : Hp), DSt P.s P.l H0 ns a b c H → 0 ≤ a → 0 ≤ c → c < 2 ^ 32 →
      (tSeq (tIfS (tTest (tOp (rI0 fun i j => .bl (decide (j < i))) (sb K 1) (ci 0))) (tD3 K) tNext) (tD4 K)) { nx := fun _ H' => Q .non H', rt := Q } [some (.ref P.s), some (.int m), x2, x3, x4] H := by
  intro ns a c x2 x3 x4 H d ha hc hc2
  have fdv : CDivW a m := ⟨h1, by
    have e : m.natAbs < 2 ^ 62 := by omega
    have : m.natAbs.log2 < 62 := (Nat.log2_lt (by omega)).mpr e
    omega⟩
  refine rd_at (xs := [.ref P.l, .int a, .int b, .int c]) rfl d.hs rfl ?_
  refine ⟨a, 0, rfl, rfl, _, rfl, ?_⟩
  by_cases hp : 0 < a
  · dsimp only
    rw [if_pos (by simpa using hp)]
    refine rd_at (xs := [.ref P.l, .int a, .int b, .int c]) rfl d.hs rfl ?_
    refine .inl ⟨a, rfl, ?_⟩
    refine ⟨_, rfl, a, m, rfl, rfl, h1, ?_⟩
    refine rd_at (xs := [.ref P.l, .int a, .int b, .int c]) rfl d.hs rfl ?_
    refine ⟨_, rfl, a, m, rfl, rfl, fdv, ?_⟩
    refine wr_at (xs := [.ref P.l, .int a, .int b, .int c]) (j := 1) rfl d.hs rfl ?_
    refine ⟨_, rfl, ?_⟩
    have d' := d.setS (a' := a / m) (b' := b) (c' := c) (o := .lst ([V.ref P.l, .int a, .int b, .int c].set 1 (.int (a / m)))) rfl
    exact fin _ _ (Int.emod_nonneg _ (by omega)) (Int.emod_lt_of_pos _ h1) d'.fr ⟨d'.ne, ns, _, _, _, d'.hs, d'.hl, Int.ediv_nonneg ha (by omega), hb0, hb, hc, hc2⟩
  · dsimp only
    rw [if_neg (by simpa using hp)]
    have pw : ∀ x : Int, 0 ≤ x → x < 2 ^ 64 → x.natAbs < 2 ^ 64 := fun x h1 h2 => by omega
    refine rd_at (xs := [.ref P.l, .int a, .int b, .int c]) rfl d.hs rfl ?_
    refine rd_at (xs := [.ref P.l, .int a, .int b, .int c]) rfl d.hs rfl ?_
    refine ⟨8191, b, rfl, rfl, .inl ⟨by omega, by omega⟩, ?_⟩
    refine ⟨c, 8191 * b, rfl, rfl, ?_⟩
    refine ⟨c + 8191 * b, 50021, rfl, rfl, ?_⟩
    refine ⟨c + 8191 * b + 50021, 5, rfl, rfl, ⟨by decide, by decide, pw _ (by omega) (by omega)⟩, ?_⟩
    refine .inl ⟨_, rfl, ?_⟩
    refine ⟨_, _, rfl, rfl, (by show (0 : Int) < 2147483587; decide), ?_⟩
    dsimp only
    generalize hx : ((c + 8191 * b + 50021) ^ (5 : Int).toNat) % 2147483587 = x
    have hx0 : 0 ≤ x := by rw [← hx]; exact Int.emod_nonneg _ (by decide)
    have hx1 : x < 2147483587 := by rw [← hx]; exact Int.emod_lt_of_pos _ (by decide)
    refine ⟨_, rfl, x, 40009, rfl, rfl, .inr ⟨by omega, by omega⟩, ?_⟩
    refine rd_at (xs := [.ref P.l, .int a, .int b, .int c]) rfl d.hs rfl ?_
    refine ⟨20011, b, rfl, rfl, .inl ⟨by omega, by omega⟩, ?_⟩
    refine ⟨x * 40009, 20011 * b, rfl, rfl, ?_⟩
    refine ⟨x * 40009 + 20011 * b, 31, rfl, rfl, ?_⟩
    refine ⟨x * 40009 + 20011 * b + 31, 3, rfl, rfl, ⟨by decide, by decide, pw _ (by omega) (by omega)⟩, ?_⟩
    refine .inl ⟨_, rfl, ?_⟩
    refine ⟨_, _, rfl, rfl, (by show (0 : Int) < 1000000009; decide), ?_⟩
    refine ⟨_, rfl, _, m, rfl, rfl, h1, ?_⟩
    exact fin _ _ (Int.emod_nonneg _ (by omega)) (Int.emod_lt_of_pos _ h1) d.fr ⟨d.ne, ns, _, _, _, d.hs, d.hl, ha, hb0, hb, hc, hc2⟩
theorem draw_run {K : PySem.W.Frag} {cl : Cls0} {vs : List V} {H : Hp} {Q : VK} {E : XK} (h : spDraw cl vs H Q E) : tDraw K { nx := fun _ H' => Q .non H', rt := Q } (L2.start dN vs) H := by
  obtain ⟨P, n, m, _, rfl, h1, h2, ⟨ne, ns, a, b, c, e1, e2, ha, hb0, hb, hc, hc2⟩, fin⟩ := h
  have d0 : DSt P.s P.l H ns a b c H := ⟨ne, e1, e2, fun _ _ h _ _ => h⟩
  show tDraw K _ [some (.ref P.s), some (.int m), none, none, none] H
  refine rd_at (xs := [.ref P.l, .int a, .int b, .int c]) rfl d0.hs rfl ?_
  refine ⟨b, 1, rfl, rfl, ?_⟩
  refine wr_at (xs := [.ref P.l, .int a, .int b, .int c]) (j := 2) rfl d0.hs rfl ?_
  have d1 := d0.setS (a' := a) (b' := b + 1) (c' := c) (o := .lst ([V.ref P.l, .int a, .int b, .int c].set 2 (.int (b + 1)))) rfl
  refine ⟨fun k σ H' => ∃ (ns : List Int) (a c : Int) (x2 x3 x4 : Option V), k = ns.length ∧ σ = [some (.ref P.s), some (.int m), x2, x3, x4] ∧ DSt P.s P.l H ns a (b + 1) c H' ∧ 0 ≤ a ∧ 0 ≤ c ∧ c < 2 ^ 32, ⟨ns.length, ns, a, c, none, none, none, rfl, rfl, d1, ha, hc, hc2⟩, ?_⟩
  rintro k σ H' ⟨ns, a, c, x2, x3, x4, rfl, rfl, d, ha, hc, hc2⟩
  refine rd_at (xs := [.ref P.l, .int a, .int (b + 1), .int c]) rfl d.hs rfl ?_
  refine ⟨rfl, _, rfl, ?_⟩
  by_cases hz : a = 0
  · dsimp only
    rw [if_pos (by rw [hz]; rfl)]
    refine rd_at (xs := [.ref P.l, .int a, .int (b + 1), .int c]) rfl d.hs rfl ?_
    refine ⟨Nat.zero_le _, fun p hp => ?_⟩
    have d2 := d.new (o := .lst []) hp
    refine ⟨.list (ns.map PyData.int), .list [], .lst (SqL.of d2.hl) (dpInts ns), .lst (SqL.of upd_same) .nil, shapedInts ns, by decide, _, rfl, ?_⟩
    rw [eqv_nil]
    cases ns with
    | nil => exact draw_tail h1 h2 (by omega) (by omega) fin [] a c x2 x3 x4 _ d2 ha hc hc2
    | cons j ns =>
      rw [if_pos (by rfl)]
      refine ⟨fun σ H' => ∃ (a c : Int) (x2 x3 x4 : Option V), σ = [some (.ref P.s), some (.int m), x2, x3, x4] ∧ DSt P.s P.l H ns a (b + 1) c H' ∧ 0 ≤ a ∧ 0 ≤ c ∧ c < 2 ^ 32, fun σ' H' ⟨a, c, x2, x3, x4, e, d, r⟩ => ⟨ns.length, by simp, ns, a, c, x2, x3, x4, rfl, e, d, r⟩, ?_⟩
      refine rd_at (xs := [.ref P.l, .int a, .int (b + 1), .int c]) rfl d2.hs rfl ?_
      refine ⟨.inl ⟨rfl, _, .inl (.inl d2.hl)⟩, ?_⟩
      refine ⟨P.l, _, 0, 0, .int j, rfl, rfl, d2.hl, by decide, by decide, ?_, rfl, ?_⟩
      · rw [List.length_map, List.length_cons]
        unfold seqIndex?
        simp
      have d3 := d2.setL (ms := ns) (o := .lst ((V.int j :: ns.map V.int).eraseIdx 0)) rfl
      refine ⟨j, rfl, ?_⟩
      dsimp only
      generalize hj : (if j < 0 then -j else j) = x
      have hx : 0 ≤ x := by rw [← hj]; exact abs_if j
      refine rd_at (xs := [.ref P.l, .int a, .int (b + 1), .int c]) rfl d3.hs rfl ?_
      refine ⟨c, 6151, rfl, rfl, .inr ⟨by omega, by omega⟩, ?_⟩
      refine ⟨_, rfl, c * 6151, x, rfl, rfl, ?_⟩
      refine ⟨c * 6151 + x, 7, rfl, rfl, ?_⟩
      refine .inl ⟨_, rfl, ?_⟩
      refine ⟨_, _, rfl, rfl, (by show (0 : Int) < 2147483629; decide), ?_⟩
      dsimp only
      refine wr_at (xs := [.ref P.l, .int a, .int (b + 1), .int c]) (j := 3) rfl d3.hs rfl ?_
      generalize hy : (c * 6151 + x + 7) % 2147483629 = y
      have hy0 : 0 ≤ y := by rw [← hy]; exact Int.emod_nonneg _ (by decide)
      have hy1 : y < 2147483629 := by rw [← hy]; exact Int.emod_lt_of_pos _ (by decide)
      have d4 := d3.setS (a' := a) (b' := b + 1) (c' := y) (o := .lst ([V.ref P.l, .int a, .int (b + 1), .int c].set 3 (.int y))) rfl
      refine ⟨_, rfl, 10, 18, rfl, rfl, ⟨by decide, by decide, by decide⟩, ?_⟩
      refine ⟨x, _, rfl, rfl, _, rfl, ?_⟩
      by_cases hb : decide ((10 : Int) ^ (18 : Int).toNat ≤ x) = true
      · dsimp only
        rw [if_pos hb]
        refine ⟨_, rfl, ?_⟩
        refine wr_at (xs := [.ref P.l, .int a, .int (b + 1), .int y]) (j := 1) rfl d4.hs rfl ?_
        exact ⟨x, y, _, _, _, rfl, d4.setS rfl, hx, hy0, by omega⟩
      · dsimp only
        rw [if_neg hb]
        refine ci_ret ?_
        refine wr_at (xs := [.ref P.l, .int a, .int (b + 1), .int y]) (j := 1) rfl d4.hs rfl ?_
        exact ⟨0, y, _, _, _, rfl, d4.setS rfl, Int.le_refl _, hy0, by omega⟩
  · dsimp only
    rw [if_neg (by intro z; exact hz (V.int.inj (of_decide_eq_true z)))]
    exact draw_tail h1 h2 (by omega) (by omega) fin ns a c x2 x3 x4 _ d ha hc hc2
section
variable {P : Program} {w : World} {K : PySem.W.Frag} {mg : Str → Option Value} {base : Heap} {f : Addr} {fd : FuncData} {pa : Arguments} {bd : List Stmt} {sc : Scope} {kws : List (Str × V)} {cl : Cls0}
/-- _law_draw keeps its promise -/
theorem ok_draw {q1 q2 q3 q4 q5 q6 q7 q8 q9 q10 q11 q12 q13 q14 q15 q16 q17 q18 q19 q20 q21 q22 q23 q24 q25 q26 q27 q28 q29 q30 q31 q32 q33 q34 q35 q36 q37 q38 q39 q40 q41 q42 q43 q44 q45 q46 q47 q48 q49 q50 q51 q52 q53 q54 q55 q56 q57 q58 q59 q60 q61 q62 q63 q64 q65 q66 q67 q68 q69 q70 q71 q72 q73 q74 q75 q76 q77 q78 q79 q80 q81 q82 q83 q84 q85 q86 q87 q88 q89 q90 q91 q92 q93 q94 q95 q96 q97 q98 q99 q100 q101 q102 q103 q104 q105 q106 q107 q108 q109 q110 q111 q112 q113 q114 q115 q116 q117 q118 q119 q120 q121 q122 q123 q124 q125 : Pos} (F : FunD K "_law_draw" "_law_draw" pa bd sc [] kws f fd) (S : FnScope dN ["stream", "many"] sc) (loc : ∀ x ∈ dN, sc.names.lookup x = some .local) (gA : sc.names.lookup ("abs" : Str) = some .globalImplicit) (gI : sc.names.lookup ("int" : Str) = some .globalImplicit)
    (hb : bd = drawB q1 q2 q3 q4 q5 q6 q7 q8 q9 q10 q11 q12 q13 q14 q15 q16 q17 q18 q19 q20 q21 q22 q23 q24 q25 q26 q27 q28 q29 q30 q31 q32 q33 q34 q35 q36 q37 q38 q39 q40 q41 q42 q43 q44 q45 q46 q47 q48 q49 q50 q51 q52 q53 q54 q55 q56 q57 q58 q59 q60 q61 q62 q63 q64 q65 q66 q67 q68 q69 q70 q71 q72 q73 q74 q75 q76 q77 q78 q79 q80 q81 q82 q83 q84 q85 q86 q87 q88 q89 q90 q91 q92 q93 q94 q95 q96 q97 q98 q99 q100 q101 q102 q103 q104 q105 q106 q107 q108 q109 q110 q111 q112 q113 q114 q115 q116 q117 q118 q119 q120 q121 q122 q123 q124 q125) (hl : (q26.endLine == q28.line) = true) (mA : mg "abs" = none) (mI : mg "int" = none) : FnOk P w K mg base CXd 1 f fd ["stream", "many"] (spDraw cl) := by
  refine F.ok (CX := CXd) S (fun vs H Q E h => ?_) (fun cdv A outer s H vs Q E hr h => ⟨tDraw K, PSs.nox ?_, draw_run h⟩)
  · obtain ⟨P, n, m, _, rfl, _⟩ := h
    rfl
  · rw [hb]
    exact pss_draw ⟨rfl, loc, gA, gI, mA, mI, hr.units, PassesOwn.never⟩ hl
/-! ### the stream -/
/-- script a list of ints: a new stream -/
abbrev rLstOf (K : PySem.W.Frag) : List V → Hp → VK → Prop := fun xs H Q => ∃ p ys, xs = [.ref p] ∧ (SqL K H p ys ∨ SqT K H p ys) ∧ ∀ l, H l = none → Q (.ref l) (upd H l (.lst ys))
def tStream (K : PySem.W.Frag) : TS := tRet (tLst (tCons (tCB (rLstOf K) (tCons (tVar 0) tNil)) (tCons (tC (.int 0)) (tCons (tC (.int 0)) (tCons (tC (.int 19)) tNil)))))
theorem ok_stream {q1 q2 q3 q4 q5 q6 q7 q8 : Pos} (F : FunD K "_law_stream" "_law_stream" pa bd sc [] kws f fd) (S : FnScope ["script"] ["script"] sc) (gL : sc.names.lookup ("list" : Str) = some .globalImplicit) (hb : bd = streamB q1 q2 q3 q4 q5 q6 q7 q8) (mL : mg "list" = none) :
    FnOk P w K mg base CXd 1 f fd ["script"] (spStream K) := by
  refine F.ok (CX := CXd) S (fun vs H Q E h => ?_) (fun cdv A outer s H vs Q E hr h => ⟨tStream K, PSs.nox ?_, ?_⟩)
  · obtain ⟨a, ns, rfl, _⟩ := h
    rfl
  · rw [hb]
    have vr : ∀ {p : Pos}, PE (cxOf CXd P w K mg base ["script"] "_law_stream" sc f cdv A outer s H E).nox (.Name "script" p) (tVar 0) := fun {p} => pe_var rfl (by
      rcases S.par "script" (List.mem_cons_self) with z | z
      · exact .inl z
      · exact .inr (.inl z))
    exact pss_one (ps_ret (pe_lst (pa_cons (pe_callTy call_list_of gL mL PyProof.Rows.boot_list (pa_cons vr pa_nil)) (pa_cons pe_int (pa_cons pe_int (pa_cons pe_int pa_nil))))))
  · obtain ⟨a, ns, rfl, hs, fin⟩ := h
    refine ⟨_, rfl, a, _, rfl, .inl hs, fun l hl => ?_⟩
    refine ⟨by show 4 ≤ sizeLine; rw [sizeLine_eq]; decide, fun s hs => ?_⟩
    have ne : s ≠ l := fun z => by rw [z, upd_same] at hs; cases hs
    rw [upd_ne ne] at hs
    exact fin l s hl ne hs
end
end DL

set_option maxHeartbeats 8000000
/-! DLS2: _law_spoilt keeps its promise. -/
namespace DL
open PySem PySem.Spec PyProof.Rows L2

abbrev spoilB (q1 q2 q3 q4 q5 q6 q7 q8 q9 q10 q11 q12 q13 q14 q15 q16 q17 q18 q19 q20 q21 q22 q23 q24 q25 q26 q27 q28 q29 q30 q31 q32 q33 q34 q35 q36 q37 q38 q39 q40 q41 q42 q43 q44 q45 : Pos) : List Stmt := [ (PySem.Stmt.If (test := (PySem.Expr.Call (func := (PySem.Expr.Name "isinstance" q1)) (args := [(PySem.Expr.Name "thing" q2), (PySem.Expr.Name "dict" q3)]) (keywords := []) (pos := q4))) (body := [ (PySem.Stmt.For (target := (PySem.Expr.Name "key" q5)) (iter := (PySem.Expr.Call (func := (PySem.Expr.Name "list" q6)) (args := [(PySem.Expr.Name "thing" q7)]) (keywords := []) (pos := q8))) (body := [ (PySem.Stmt.Expr (value := (PySem.Expr.Call (func := (PySem.Expr.Name "_law_spoilt" q9)) (args := [ (PySem.Expr.Subscript (value := (PySem.Expr.Name "thing" q10)) (slice := (PySem.Expr.Name "key" q11)) (pos := q12))]) (keywords := []) (pos := q13))) (pos := q14))]) (orelse := []) (pos := q15)), (PySem.Stmt.Assign (targets := [ (PySem.Expr.Subscript (value := (PySem.Expr.Name "thing" q16)) (slice := (PySem.Expr.Constant (PySem.Const.str "late") 0 q17)) (pos := q18))]) (value := (PySem.Expr.Constant (PySem.Const.int 1) 0 q19)) (pos := q20))]) (orelse := []) (pos := q21)), (PySem.Stmt.If (test := (PySem.Expr.Call (func := (PySem.Expr.Name "isinstance" q22)) (args := [ (PySem.Expr.Name "thing" q23), (PySem.Expr.Tuple (elts := [(PySem.Expr.Name "list" q24), (PySem.Expr.Name "tuple" q25)]) (k := 0) (pos := q26))]) (keywords := []) (pos := q27))) (body := [ (PySem.Stmt.For (target := (PySem.Expr.Name "part" q28)) (iter := (PySem.Expr.Name "thing" q29)) (body := [ (PySem.Stmt.Expr (value := (PySem.Expr.Call (func := (PySem.Expr.Name "_law_spoilt" q30)) (args := [(PySem.Expr.Name "part" q31)]) (keywords := []) (pos := q32))) (pos := q33))]) (orelse := []) (pos := q34))]) (orelse := []) (pos := q35)), (PySem.Stmt.If (test := (PySem.Expr.Call (func := (PySem.Expr.Name "isinstance" q36)) (args := [(PySem.Expr.Name "thing" q37), (PySem.Expr.Name "list" q38)]) (keywords := []) (pos := q39))) (body := [ (PySem.Stmt.Expr (value := (PySem.Expr.Call (func := (PySem.Expr.Attribute (PySem.Expr.Name "thing" q40) "append" q41)) (args := [(PySem.Expr.Constant (PySem.Const.str "late") 0 q42)]) (keywords := []) (pos := q43))) (pos := q44))]) (orelse := []) (pos := q45))]
section
variable {P : Program} {w : World} {K : PySem.W.Frag} {mg : Str → Option Value} {base : Heap} {f : Addr} {fd : FuncData} {pa : Arguments} {bd : List Stmt} {sc : Scope} {kws : List (Str × V)}
abbrev sN : List Str := ["thing", "key", "part"]
theorem ok_spoilt {q1 q2 q3 q4 q5 q6 q7 q8 q9 q10 q11 q12 q13 q14 q15 q16 q17 q18 q19 q20 q21 q22 q23 q24 q25 q26 q27 q28 q29 q30 q31 q32 q33 q34 q35 q36 q37 q38 q39 q40 q41 q42 q43 q44 q45 : Pos} (F : FunD K "_law_spoilt" "_law_spoilt" pa bd sc [] kws f fd) (S : FnScope sN ["thing"] sc) (loc : ∀ x ∈ sN, sc.names.lookup x = some .local) (gI : sc.names.lookup ("isinstance" : Str) = some .globalImplicit)
    (gD : sc.names.lookup ("dict" : Str) = some .globalImplicit) (gL : sc.names.lookup ("list" : Str) = some .globalImplicit) (gT : sc.names.lookup ("tuple" : Str) = some .globalImplicit) (gS : sc.names.lookup ("_law_spoilt" : Str) = some .globalImplicit)
    (hb : bd = spoilB q1 q2 q3 q4 q5 q6 q7 q8 q9 q10 q11 q12 q13 q14 q15 q16 q17 q18 q19 q20 q21 q22 q23 q24 q25 q26 q27 q28 q29 q30 q31 q32 q33 q34 q35 q36 q37 q38 q39 q40 q41 q42 q43 q44 q45) (hl : (q41.endLine == q43.line) = true) (mI : mg "isinstance" = none) (mD : mg "dict" = none) (mL : mg "list" = none) (mT : mg "tuple" = none) (mS : mg "_law_spoilt" = some (.ref f)) (bnd : Binds K fd ["thing"] []) :
    ∀ m, FnOk P w K mg base CXd (m + 1) f fd ["thing"] (spSpoil m) := by
  have len : ∀ m vs H Q E, spSpoil m vs H Q E → vs.length = (["thing"] : List Str).length := fun m vs H Q E ⟨_, _, _, _, _, e, _⟩ => by rw [e]; rfl
  have step : ∀ (m : Nat) (ti : TS), (m = 0 ∨ ∃ m', m = m' + 1 ∧ ti = tSpFor K m') → (∀ (cdv : Value) (A : Around) (outer : List Env) (s : Shared) (H : Hp) (E : XK), Room m (A.deeper (envOfC "_law_spoilt" sc s.heap.objs.size f cdv)) →
      PSs (cxOf CXd P w K mg base sN "_law_spoilt" sc f cdv A outer s H E).nox [.For (.Name "part" q28) (.Name "thing" q29) [.Expr (.Call (.Name "_law_spoilt" q30) [.Name "part" q31] [] q32) q33] [] q34] ti) → FnOk P w K mg base CXd (m + 1) f fd ["thing"] (spSpoil m) := by
    intro m ti hti hfor
    refine F.ok (CX := CXd) S (len m) (fun cdv A outer s H vs Q E hr h => ⟨tSpl K ti, PSs.nox ?_, spl_run hti h⟩)
    rw [hb]
    have vr : ∀ {i : Nat} {x : Str} {p : Pos}, sN[i]? = some x → (x == ("__debug__" : Str)) = false → (x == ("__classdict__" : Str)) = false → PE (cxOf CXd P w K mg base sN "_law_spoilt" sc f cdv A outer s H E).nox (.Name x p) (tVar i) := fun {i x p} h h1 h2 => pe_var h (.inl (loc x (List.mem_of_getElem? h))) h1 h2
    have v0 : ∀ {p : Pos}, PE (cxOf CXd P w K mg base sN "_law_spoilt" sc f cdv A outer s H E).nox (.Name "thing" p) (tVar 0) := fun {p} => vr rfl (by decide) (by decide)
    have tyE : ∀ {n : String} {p : Pos}, (n == "int" || n == "bool" || n == "str" || n == "list" || n == "tuple" || n == "dict") = true → sc.names.lookup (PySem.Str.ofString n) = some .globalImplicit → mg (PySem.Str.ofString n) = none → PE (cxOf CXd P w K mg base sN "_law_spoilt" sc f cdv A outer s H E).nox (.Name (PySem.Str.ofString n) p) (tC (.ty n)) := fun {n p} h1 h2 h3 => pe_ty h1 ⟨p, rfl⟩ h2 h3
    have isi : ∀ {n : String} {p1 p2 p3 p4 : Pos}, (n == "int" || n == "bool" || n == "str" || n == "list" || n == "tuple" || n == "dict") = true → sc.names.lookup (PySem.Str.ofString n) = some .globalImplicit → mg (PySem.Str.ofString n) = none →
        PT (cxOf CXd P w K mg base sN "_law_spoilt" sc f cdv A outer s H E).nox (.Call (.Name "isinstance" p1) [.Name "thing" p2, .Name (PySem.Str.ofString n) p3] [] p4) (tru K (tIsi K n)) := fun {n p1 p2 p3 p4} h1 h2 h3 =>
      pt_truth (pe_callB call_isi gI mI boot_isi (pa_cons v0 (pa_cons (tyE h1 h2 h3) pa_nil)) (by decide) (by decide) rfl rfl) fun _ => rfl
    refine pss_cons (ps_if (isi (n := "dict") (by decide) gD mD) (pss_never.imp fun _ _ _ z => z.elim) pss_nil) (pss_cons (ps_if (pt_truth (pe_callB call_isiT gI mI boot_isi (pa_cons v0 (pa_cons (pe_tup (pa_cons (tyE (n := "list") (by decide) gL mL) (pa_cons (tyE (n := "tuple") (by decide) gT mT) pa_nil))) pa_nil)) (by decide) (by decide) rfl rfl) fun _ => rfl) (hfor cdv A outer s H E hr) pss_nil) (pss_one (ps_if (isi (n := "list") (by decide) gL mL) (pss_one (ps_expr (pe_bm PySem.F.plainAttrs_list PySem.F.slot_list_append PySem.F.type_list_append mt_append v0 (pa_cons pe_str pa_nil) rfl rfl hl rfl rfl) rfl)) pss_nil)))
  intro m
  induction m with
  | zero => exact step 0 tNo (.inl rfl) fun cdv A outer s H E hr => pss_never.imp fun _ _ _ z => z.elim
  | succ m ih =>
    refine step (m + 1) (tSpFor K m) (.inr ⟨m, rfl, rfl⟩) fun cdv A outer s H E hr => ?_
    have vr : ∀ {i : Nat} {x : Str} {p : Pos}, sN[i]? = some x → (x == ("__debug__" : Str)) = false → (x == ("__classdict__" : Str)) = false → PE (cxOf CXd P w K mg base sN "_law_spoilt" sc f cdv A outer s H E).nox (.Name x p) (tVar i) := fun {i x p} h h1 h2 => pe_var h (.inl (loc x (List.mem_of_getElem? h))) h1 h2
    have hc : PE (cxOf CXd P w K mg base sN "_law_spoilt" sc f cdv A outer s H E).nox (.Call (.Name "_law_spoilt" q30) [.Name "part" q31] [] q32) (tCall (spSpoil m) [] (fun _ _ _ => False) (tCons (tVar 2) tNil)) :=
      pe_call ih hr gS mS F.kp bnd .nil passD (pa_cons (vr (i := 2) rfl (by decide) (by decide)) pa_nil)
    have hg : PG (cxOf CXd P w K mg base sN "_law_spoilt" sc f cdv A outer s H E).nox (.Name "part" q28) (gName 2) := pg_name S.nd rfl (.inl (loc "part" (by decide))) (.inl rfl)
    exact pss_one (ps_for PassesOwn.never rfl (pi_seq (vr (i := 0) rfl (by decide) (by decide))) hg (pss_one (ps_expr hc rfl)))
end
end DL

set_option maxHeartbeats 8000000
/-! DL19: the law itself. -/
namespace DL
open PySem PySem.Spec PyProof.Rows L2

/-- the law's promise: True of every script -/
def spLaw (K : PySem.W.Frag) : Sp := fun vs H Q _ => ∃ (a : Addr) (ns : List Int), vs = [.ref a] ∧ SqL K H a (ns.map V.int) ∧ ∀ H', Q (.bl true) H'
def lawFr (ns : Nat) : Fr := .no :: .v .strm false :: List.replicate (ns - 2) .no
/-- .. where the script is looked at again -/
def lawFrS (ns : Nat) : Fr := .scr :: .v .strm false :: List.replicate (ns - 2) .no
def PlainS (tb : List FD) (d ns : Nat) (body : XSs) : Prop := evSs (evF tb d) body ⟨fun _ _ => False, fun r _ => r.1 = .bl true, fun _ _ => False⟩ (lawFrS ns) (2 ^ 40)
/-- what is to be shown of the text by the evaluator -/
def Plain (tb : List FD) (d ns : Nat) (body : XSs) : Prop := evSs (evF tb d) body ⟨fun _ _ => False, fun r _ => r.1 = .bl true, fun _ _ => False⟩ (lawFr ns) (2 ^ 40)
section
variable {P : Program} {w : World} {K : PySem.W.Frag} {mg : Str → Option Value} {base : Heap} {cl : Cls0}
theorem ok_law {tb : List FI} {kws : List KwS} {d : Nat} {N : List Str} {fL : Addr} {fdL : FuncData} {paL : Arguments} {bdL rest : List Stmt} {scL : Scope} {body : XSs} {p1 p2 p3 p4 p5 : Pos}
    (hok : ∀ I ∈ tb, I.okB (tb.map (·.nm)) kws = true ∧ FnScope I.N I.ps I.scope)
    (hfn : ∀ g I, tb[g]? = some I → ∃ fa fd, FunD K I.name I.qual I.params I.body I.scope [] [] fa fd ∧ Binds K fd I.ps [] ∧ PySem.W.keepIn K (.ref fa) = true ∧ FaC K mg cl kws g I fa fd)
    (hcl : ∀ c ns, clsK c ns ∈ kws → ∃ C, cl c = some (C, ns) ∧ ns.Nodup ∧ ClF K C ∧ (∀ f ∈ ns, NoAttr K C f) ∧ mg c = some (.ref C))
    (hme : ∀ g c m, methK g c m ∈ kws → ∃ I, tb[g]? = some I ∧ I.kd = .met c m)
    (hmg : ∀ x ∈ bltNames, mg x = none)
    (hdr : ∃ (fa : Addr) (fd : FuncData), FnOk P w K mg base CXd 1 fa fd ["stream", "many"] (spDraw cl) ∧ mg "_law_draw" = some (.ref fa) ∧ PySem.W.keepIn K (.ref fa) = true ∧ Binds K fd ["stream", "many"] [])
    (hsp : spK ∈ kws → ∃ (fa : Addr) (fd : FuncData), FnOk P w K mg base CXd 11 fa fd ["thing"] (spSpoil 10) ∧ mg "_law_spoilt" = some (.ref fa) ∧ PySem.W.keepIn K (.ref fa) = true ∧ Binds K fd ["thing"] [])
    (hst : ∃ (fa : Addr) (fd : FuncData), FnOk P w K mg base CXd 1 fa fd ["script"] (spStream K) ∧ mg "_law_stream" = some (.ref fa) ∧ PySem.W.keepIn K (.ref fa) = true ∧ Binds K fd ["script"] [])
    (FL : FunD K "law" "law" paL bdL scL [] [] fL fdL) (S : FnScope N ["script"] scL) (hN1 : N[1]? = some ("stream" : Str)) (hN0 : N[0]? = some ("script" : Str)) (hN2 : 2 ≤ N.length)
    (hloc : scL.names.lookup ("stream" : Str) = some .local ∨ scL.names.lookup ("stream" : Str) = some .cell) (hgl : scL.names.lookup ("_law_stream" : Str) = some .globalImplicit)
    (hb : bdL = .Assign [.Name "stream" p1] (.Call (.Name "_law_stream" p2) [.Name "script" p3] [] p4) p5 :: rest)
    (hchk : chkSs N (tb.map (·.nm)) kws body scL rest = true) (hsc : ∀ a H, cl.ok a H ↔ ∃ ns : List Int, SqL K H a (ns.map V.int)) (plain : Plain (tb.map (·.F)) d N.length body ∨ PlainS (tb.map (·.F)) d N.length body) : FnG P w K mg base CXd (lvl d + 2) fL ["script"] fdL (spLaw K) := by
  have hdr3 : ∃ (fa : Addr) (fd : FuncData) (ps : List Str), FnOk P w K mg base CXd 3 fa fd ps (spDraw cl) ∧ mg "_law_draw" = some (.ref fa) ∧ PySem.W.keepIn K (.ref fa) = true ∧ Binds K fd ps [] := by
    obtain ⟨fa, fd, F, hm, hk, hb⟩ := hdr
    exact ⟨fa, fd, _, F.mono (by omega), hm, hk, hb⟩
  have all := fn_all hok hfn hmg hcl hme hdr3 hsp hst (fun a H => (hsc a H).mp) d
  refine fnG_of (CX := CXd) (k := lvl d + 1) FL S (fun vs H Q E h => ?_) (fun cdv A outer s H vs Q E gd hr h => ⟨tSeq (tAsg (tCall (spStream K) [] (fun _ _ _ => False) (tCons (tVar 0) tNil)) (gName 1)) (tS cl (evSs (evF (tb.map (·.F)) d) body)), PSs.nox ?_, ?_⟩)
  · obtain ⟨a, ns, rfl, _⟩ := h
    rfl
  · rw [hb]
    have kxs := kx_of (X := (cxOf CXd P w K mg base N "law" scL fL cdv A outer s H E).nox) hok hfn hcl hme all rfl rfl rfl rfl rfl hr gd
    have kx : Kx cl N (tb.map (·.nm)) kws (evF (tb.map (·.F)) d) (cxOf CXd P w K mg base N "law" scL fL cdv A outer s H E).nox scL := ⟨rfl, S.nd, rfl, S.kind, rfl, hmg, hr.units, gd, kxs.1, by
        obtain ⟨fa', fd', ps, F', hm, hk, hb⟩ := hdr3
        exact ⟨3, fa', fd', ps, F', hr.mono (by unfold lvl; omega), hm, hk, hb⟩, kxs.2.1, kxs.2.2, fun hs => by
        obtain ⟨fa', fd', F', hm, hk, hb⟩ := hsp hs
        exact ⟨11, fa', fd', F', hr.mono (by unfold lvl; omega), hm, hk, hb⟩, by
        obtain ⟨fa', fd', F', hm, hk, hb⟩ := hst
        exact ⟨⟨1, fa', fd', F', hr.mono (by unfold lvl; omega), hm, hk, hb⟩, fun a H => (hsc a H).mp⟩⟩
    have sx : Sx cl N (tb.map (·.nm)) kws (evF (tb.map (·.F)) d) (cxOf CXd P w K mg base N "law" scL fL cdv A outer s H E).nox scL := ⟨kx, ⟨rfl, S.nd, fun x hx => ⟨hx, .inl rfl⟩⟩, PassesOwn.never⟩
    obtain ⟨fs, fds, FS, hms, hks, hbs⟩ := hst
    have v0 : Vis scL "script" := by
      rcases S.par "script" List.mem_cons_self with z | z
      · exact .inl z
      · exact .inr (.inl z)
    refine pss_cons (ps_set (i := 1) S.nd hN1 hloc (pe_call (E := fun _ _ _ => False) (FS.mono (k := 3) (by omega)) (hr.mono (by unfold lvl; omega)) hgl hms hks hbs .nil passD (pa_cons (pe_var hN0 v0) pa_nil)) rfl (.inl rfl)) ?_
    exact okSs body sx hchk
  · obtain ⟨a, ns, rfl, hs, fin⟩ := h
    have hN : ∃ M, N.length = M + 2 := ⟨N.length - 2, by omega⟩
    obtain ⟨M, hM⟩ := hN
    have st0 : L2.start N [.ref a] = some (.ref a) :: none :: List.replicate M none := by
      unfold L2.start
      rw [hM]
      rfl
    rw [st0]
    refine ⟨_, rfl, a, ns, rfl, hs, fun l sa hl ne hsa => ?_⟩
    generalize hH : upd (upd H l (.lst (ns.map V.int))) sa (.lst [.ref l, .int 0, .int 0, .int 19]) = H1
    show tS cl (evSs (evF (tb.map (·.F)) d) body) _ (some (.ref a) :: some (.ref sa) :: List.replicate M none) H1
    have S : ∀ s0 : Sl, SlR ⟨sa, l, cl, 0⟩ (fun _ => none) H1 H1 (fun _ => False) (some (.ref a)) s0 → SR ⟨sa, l, cl, 0⟩ (fun _ => none) H1 (fun _ _ => False) (2 ^ 40) (some (.ref a) :: some (.ref sa) :: List.replicate M none) (s0 :: .v .strm false :: List.replicate (N.length - 2) .no) (fun _ => none) H1 := by
      intro s0 hs0
      refine ⟨⟨fun _ _ z => (by cases z), fun _ _ z => z, fun _ _ => .inl rfl, fun _ _ z _ _ => z, ⟨ne, ns, 0, 0, 19, ?_, ?_, ?_⟩, rfl, rfl⟩, ⟨fun _ _ _ h => h.elim, fun _ _ h => h.elim, fun _ _ h => h.elim, fun _ _ h => h.elim, fun _ _ h => h.elim, fun _ _ h => h.elim⟩, ?_, ?_⟩
      · rw [← hH, upd_same]
      · rw [← hH, upd_ne (Ne.symm ne), upd_same]
      · exact ⟨Int.le_refl _, Int.le_refl _, by decide, by decide, by decide⟩
      · rw [hM]
        simp
      · intro i sl e
        match i with
        | 0 => cases e; exact hs0
        | 1 => cases e; exact ⟨_, rfl, .strm⟩
        | i + 2 =>
          have e' : (List.replicate (N.length - 2) Sl.no)[i]? = some sl := e
          rw [List.getElem?_replicate] at e'
          split at e'
          · cases e'; trivial
          · cases e'
    have go : ∀ s0 : Sl, SlR ⟨sa, l, cl, 0⟩ (fun _ => none) H1 H1 (fun _ => False) (some (.ref a)) s0 → evSs (evF (tb.map (·.F)) d) body ⟨fun _ _ => False, fun r _ => r.1 = .bl true, fun _ _ => False⟩ (s0 :: .v .strm false :: List.replicate (N.length - 2) .no) (2 ^ 40) → tS cl (evSs (evF (tb.map (·.F)) d) body) { nx := fun _ H' => Q .non H', rt := Q } (some (.ref a) :: some (.ref sa) :: List.replicate M none) H1 := fun s0 h0 pl => by
      refine ⟨⟨sa, l, cl, 0⟩, fun _ => none, H1, fun _ _ => False, 2 ^ 40, _, fun _ => none, _, rfl, S s0 h0, pl, fun _ _ z => z.elim, fun r n' hr v G' H' b q => ?_, fun _ _ z => z.elim⟩
      rw [hr] at q
      cases bl_of q
      exact fin H'
    rcases plain with pl | pl
    · exact go .no trivial pl
    · refine go .scr ⟨a, H, rfl, (hsc a H).mpr ⟨ns, hs⟩, fun b o hb => ?_⟩ pl
      have n1 : b ≠ l := fun z => by rw [z, hl] at hb; cases hb
      have n2 : b ≠ sa := fun z => by rw [z, hsa] at hb; cases hb
      exact ⟨n2, n1, by rw [← hH, upd_ne n2, upd_ne n1]; exact hb⟩
end
end DL

set_option maxHeartbeats 8000000
/-! DL20: from a law's head to its end. -/
namespace DL
open PySem PySem.Spec PyProof.Rows L2

/-- a class's suite -/
def clsBody (s : Stmt) : List Stmt := match s with
  | .ClassDef _ _ _ b _ _ _ _ _ _ _ => b
  | _ => []
def scopeB (N ps : List Str) (sc : Scope) : Bool := (match sc.kind with | .function => true | _ => false) && !sc.isCoroutine && !sc.isGenerator && decide N.Nodup && decide (N.take ps.length = ps) &&
  ps.all (fun x => decide (sc.names.lookup x = some .local) || decide (sc.names.lookup x = some .cell)) && sc.names.all (fun y => decide (y.2 ≠ .free))
theorem scopeB_ok {N ps : List Str} {sc : Scope} (h : scopeB N ps sc = true) : FnScope N ps sc := by
  unfold scopeB at h
  obtain ⟨h, a7⟩ := and2 h
  obtain ⟨h, a6⟩ := and2 h
  obtain ⟨h, a5⟩ := and2 h
  obtain ⟨a1, a2, a3, a4⟩ := and4 h
  refine ⟨?_, ?_, ?_, of_decide_eq_true a4, of_decide_eq_true a5, fun x hx => ?_, fun y hy => ?_⟩
  · split at a1
    · assumption
    · cases a1
  · rw [Bool.not_eq_true'] at a2; exact a2
  · rw [Bool.not_eq_true'] at a3; exact a3
  · have := List.all_eq_true.mp a6 x hx
    rcases Bool.or_eq_true_iff.mp this with z | z
    · exact .inl (of_decide_eq_true z)
    · exact .inr (of_decide_eq_true z)
  · exact of_decide_eq_true (List.all_eq_true.mp a7 y hy)
/-- how a call binds: its values alone, with keywords -/
def Bnd (I : FI) : Prop := ∀ (kV doc pm : Value) (an : Option Addr) (cdv ct : Value) (us : List Value), us.length = I.ps.length → bindArgs (PySem.W.fnOf I.name I.qual I.params I.body I.scope .none kV doc pm an cdv ct) ⟨us, []⟩ = pure (I.ps.zip us)
def KBnd (I : FI) (ks : List Str) (m : Nat) (ord : List Nat) : Prop := I.ps ≠ [] ∧ ∀ (kV doc pm : Value) (an : Option Addr) (cdv ct : Value) (us ws : List Value), us.length = m → ws.length = ks.length →
  bindArgs (PySem.W.fnOf I.name I.qual I.params I.body I.scope .none kV doc pm an cdv ct) ⟨us, ks.zip ws⟩ = pure (I.ps.zip (gK m ks.length ord us ws))
theorem kbnd_ok {K : PySem.W.Frag} {I : FI} {ks : List Str} {m : Nat} {ord : List Nat} {fa : Addr} {fd : FuncData} (F : FunD K I.name I.qual I.params I.body I.scope [] [] fa fd) (h : KBnd I ks m ord) : KBinds K fd I.ps ks (gK m ks.length ord) (gK m ks.length ord) := by
  refine ⟨fun s us ws X hl => ?_, fun r r2 => gK_rel m ks.length ord r r2⟩
  obtain ⟨oc, od, dV, kV, doc, pm, an, cdv, ct, osl, rfl, lk, hcd, hD, hK⟩ := F.ex
  rcases hD with ⟨_, rfl⟩ | ⟨e, _⟩
  · by_cases q : us.length = m ∧ ws.length = ks.length
    · exact BindsTo.of_eq (h.2 kV doc pm an cdv ct us ws q.1 q.2)
    · unfold gK at hl
      rw [if_neg q] at hl
      exact absurd (List.length_eq_zero_iff.mp hl.symm) h.1
  · exact absurd rfl e
def FI.defD (I : FI) : He.DefD := ⟨I.at_, I.name, I.qual, I.params, I.body, I.scope, [], []⟩
/-- _law_spoilt's text -/
def SpT (I : FI) : Prop := I.kd = .glo ∧ I.nm = "_law_spoilt" ∧ I.qual = "_law_spoilt" ∧ I.ps = (["thing"] : List Str) ∧ scopeB sN ["thing"] I.scope = true ∧ (sN.all fun x => decide (I.scope.names.lookup x = some .local)) = true ∧
  ((["isinstance", "dict", "list", "tuple", "_law_spoilt"] : List Str).all fun x => decide (I.scope.names.lookup x = some .globalImplicit)) = true ∧ ∃ s1 s2 s3 s4 s5 s6 s7 s8 s9 s10 s11 s12 s13 s14 s15 s16 s17 s18 s19 s20 s21 s22 s23 s24 s25 s26 s27 s28 s29 s30 s31 s32 s33 s34 s35 s36 s37 s38 s39 s40 s41 s42 s43 s44 s45 : Pos, I.body = spoilB s1 s2 s3 s4 s5 s6 s7 s8 s9 s10 s11 s12 s13 s14 s15 s16 s17 s18 s19 s20 s21 s22 s23 s24 s25 s26 s27 s28 s29 s30 s31 s32 s33 s34 s35 s36 s37 s38 s39 s40 s41 s42 s43 s44 s45 ∧ (s41.endLine == s43.line) = true
def fnL (D S L : FI) (tb : List FI) : List He.DefD := D.defD :: S.defD :: L.defD :: tb.map FI.defD
def FI.fa (I : FI) : He.Fa := match I.kd with
  | .glo => .glo I.nm
  | .met c m => .meth c m
  | .ini c => .mkr c
/-- the own classes: their fields -/
abbrev CTb := List (Str × List Str)
def faC (q : Str × List Str) : List He.Fa := .glo q.1 :: .cls q.1 :: q.2.map (He.Fa.noat q.1)
def faL (CT : CTb) (D S L : FI) (tb : List FI) : List He.Fa := (D :: S :: L :: tb).map FI.fa ++ (bltNames.map He.Fa.free ++ (CT.map faC).flatten)
def exB (CT : CTb) (K : PySem.W.Frag) : Bool := CT.all fun q => clB K (He.ga K q.1)
/-- the head's facts, and one more Bool of K -/
def hookE (n : Nat) (fa : List He.Fa) (fn : List He.DefD) (ex : PySem.W.Frag → Bool) : PySem.W.Hook where
  α := He.AlD × Bool
  obs := fun s => (He.obsDG n fa fn s.heap.get?, ex (He.frG s.heap.get? (He.asD s.heap.get? n)))
  val := fun _ => (He.valD fn, true)
  says := fun _ h => ∃ K : PySem.W.Frag, K.In h ∧ He.SaysD fa fn K ∧ ex K = true
  of := fun _ _ e => ⟨_, He.frG_in, congrArg (fun z : He.AlD × Bool => z.1) e, congrArg (fun z : He.AlD × Bool => z.2) e⟩
  keeps := fun _ _ _ ⟨K, hK, c⟩ k => ⟨K, PySem.W.Frag.In.keeps hK k, c⟩
def obsE (n : Nat) (fa : List He.Fa) (fn : List He.DefD) (ex : PySem.W.Frag → Bool) (g : Addr → Option Obj) : He.AlD × Bool := (He.obsDG n fa fn g, ex (He.frG g (He.asD g n)))
theorem obsE_eq {n : Nat} {fa : List He.Fa} {fn : List He.DefD} {ex : PySem.W.Frag → Bool} {g : Addr → Option Obj} {s : Shared} (h : ∀ a, g a = s.heap.get? a) : obsE n fa fn ex g = (hookE n fa fn ex).obs s := by
  have e : g = s.heap.get? := funext h
  rw [e] <;> rfl
def kdB (CT : CTb) (I : FI) : Bool := match I.kd with
  | .glo => true
  | .met c m => (match CT.lookup c with
    | some ns => !ns.contains m
    | none => false)
  | .ini c => (CT.lookup c).isSome
/-- what is fixed of a law's text -/
structure LawT (CT : CTb) (D S L : FI) (ex tb : List FI) (kws : List KwS) : Prop where
  ok : (tb.all fun I => I.okB (tb.map (·.nm)) kws && scopeB I.N I.ps I.scope) = true
  bnd : ∀ I ∈ D :: S :: L :: (ex ++ tb), Bnd I
  kb : ∀ q ∈ kws, q = spK ∨ (∃ I, tb[q.1]? = some I ∧ I.kd = .glo ∧ q.2.2.1 < 1000 ∧ KBnd I q.2.1 q.2.2.1 q.2.2.2) ∨ (∃ c ns, q = clsK c ns ∧ CT.lookup c = some ns ∧ ns.Nodup) ∨ (∃ g c m, q = methK g c m ∧ ∃ I, tb[g]? = some I ∧ I.kd = .met c m)
  kdb : (tb.all (kdB CT)) = true
  gk : D.kd = .glo ∧ S.kd = .glo ∧ L.kd = .glo
  few : tb.length ≤ 1000000
  spo : spK ∈ kws → ∃ I ∈ ex, SpT I
  sD : scopeB dN ["stream", "many"] D.scope = true
  nD : D.nm = "_law_draw" ∧ D.qual = "_law_draw" ∧ D.ps = (["stream", "many"] : List Str)
  lD : (dN.all fun x => decide (D.scope.names.lookup x = some .local)) = true ∧ D.scope.names.lookup ("abs" : Str) = some .globalImplicit ∧ D.scope.names.lookup ("int" : Str) = some .globalImplicit
  sS : scopeB ["script"] ["script"] S.scope = true
  nS : S.nm = "_law_stream" ∧ S.qual = "_law_stream" ∧ S.ps = (["script"] : List Str)
  lS : S.scope.names.lookup ("list" : Str) = some .globalImplicit
  sL : scopeB L.N ["script"] L.scope = true
  nL : L.nm = "law" ∧ L.qual = "law" ∧ L.ps = (["script"] : List Str)
  lL : L.N[1]? = some ("stream" : Str) ∧ L.N[0]? = some ("script" : Str) ∧ 2 ≤ L.N.length ∧ (L.scope.names.lookup ("stream" : Str) = some .local ∨ L.scope.names.lookup ("stream" : Str) = some .cell) ∧ L.scope.names.lookup ("_law_stream" : Str) = some .globalImplicit
section
variable {P : Program} {w : World} {K : PySem.W.Frag} {mg : Str → Option Value} {h : Heap} {f : Addr} {D S L : FI} {ex tb : List FI} {kws : List KwS}
theorem says_fn {CT : CTb} (c : He.SaysD (faL CT D S L tb) (fnL D S L tb) K) {I : FI} (h : I ∈ D :: S :: L :: tb) : ∃ fd, FunD K I.name I.qual I.params I.body I.scope [] [] (He.fAd K I.at_) fd := by
  have h' : I.defD ∈ fnL D S L tb := by
    show I.defD ∈ (D :: S :: L :: tb).map FI.defD
    exact List.mem_map_of_mem h
  obtain ⟨i, hi⟩ := List.mem_iff_getElem?.mp h'
  exact c.def_ i hi
theorem says_glo {CT : CTb} (c : He.SaysD (faL CT D S L tb) (fnL D S L tb) K) {I : FI} (h : I ∈ D :: S :: L :: tb) (hk : I.kd = .glo) : ∃ fd, FunD K I.nm I.qual I.params I.body I.scope [] [] (He.ga K I.nm) fd := by
  obtain ⟨fd, F⟩ := says_fn c h
  rw [show I.at_ = (I.nm, none) from by unfold FI.at_; rw [hk], show I.name = I.nm from by unfold FI.name; rw [hk]] at F
  exact ⟨fd, F⟩
theorem bnd_glo {I : FI} (hk : I.kd = .glo) (b : Bnd I) : ∀ (kV doc pm : Value) (an : Option Addr) (cdv ct : Value) (us : List Value), us.length = I.ps.length → bindArgs (PySem.W.fnOf I.nm I.qual I.params I.body I.scope .none kV doc pm an cdv ct) ⟨us, []⟩ = pure (I.ps.zip us) := by
  have e : I.name = I.nm := by unfold FI.name; rw [hk]
  unfold Bnd at b
  rw [e] at b
  exact b
theorem says_fa {CT : CTb} (c : He.SaysD (faL CT D S L tb) (fnL D S L tb) K) {q : He.Fa} (h : q ∈ faL CT D S L tb) : q.ok K = true := by
  obtain ⟨i, hi⟩ := List.mem_iff_getElem?.mp h
  exact c.fact i hi
theorem facts_of {CT : CTb} {d : Nat} {q1 q2 q3 q4 q5 q6 q7 q8 : Pos} {d1 d2 d3 d4 d5 d6 d7 d8 d9 d10 d11 d12 d13 d14 d15 d16 d17 d18 d19 d20 d21 d22 d23 d24 d25 d26 d27 d28 d29 d30 d31 d32 d33 d34 d35 d36 d37 d38 d39 d40 d41 d42 d43 d44 d45 d46 d47 d48 d49 d50 d51 d52 d53 d54 d55 d56 d57 d58 d59 d60 d61 d62 d63 d64 d65 d66 d67 d68 d69 d70 d71 d72 d73 d74 d75 d76 d77 d78 d79 d80 d81 d82 d83 d84 d85 d86 d87 d88 d89 d90 d91 d92 d93 d94 d95 d96 d97 d98 d99 d100 d101 d102 d103 d104 d105 d106 d107 d108 d109 d110 d111 d112 d113 d114 d115 d116 d117 d118 d119 d120 d121 d122 d123 d124 d125  : Pos} {p1 p2 p3 p4 p5 : Pos} {rest : List Stmt} (T : LawT CT D S L ex tb kws) (bD : D.body = drawB d1 d2 d3 d4 d5 d6 d7 d8 d9 d10 d11 d12 d13 d14 d15 d16 d17 d18 d19 d20 d21 d22 d23 d24 d25 d26 d27 d28 d29 d30 d31 d32 d33 d34 d35 d36 d37 d38 d39 d40 d41 d42 d43 d44 d45 d46 d47 d48 d49 d50 d51 d52 d53 d54 d55 d56 d57 d58 d59 d60 d61 d62 d63 d64 d65 d66 d67 d68 d69 d70 d71 d72 d73 d74 d75 d76 d77 d78 d79 d80 d81 d82 d83 d84 d85 d86 d87 d88 d89 d90 d91 d92 d93 d94 d95 d96 d97 d98 d99 d100 d101 d102 d103 d104 d105 d106 d107 d108 d109 d110 d111 d112 d113 d114 d115 d116 d117 d118 d119 d120 d121 d122 d123 d124 d125 ) (hl : (d26.endLine == d28.line) = true) (bS : S.body = streamB q1 q2 q3 q4 q5 q6 q7 q8)
    (bL : L.body = .Assign [.Name "stream" p1] (.Call (.Name "_law_stream" p2) [.Name "script" p3] [] p4) p5 :: rest) (hchk : chkSs L.N (tb.map (·.nm)) kws L.F.body L.scope rest = true) (plain : Plain (tb.map (·.F)) d L.N.length L.F.body ∨ PlainS (tb.map (·.F)) d L.N.length L.F.body)
    (X : K.In h) (G : h.Ns mainGlobals mg) (hfa : mg ("law" : Str) = some (.ref f)) (c : He.SaysD (faL CT D S L (ex ++ tb)) (fnL D S L (ex ++ tb)) K) (hex : exB CT K = true) :
    ∃ fd : FuncData, (∀ (s : Shared) (v : Value), BindsTo s fd ⟨[v], []⟩ [("script", v)]) ∧ ∀ base : Heap, K.In base → base.Ns mainGlobals mg → FnG P w K mg base CXd (lvl d + 2) f ["script"] fd (spLaw K) := by
  have glo : ∀ {I : FI}, I ∈ D :: S :: L :: (ex ++ tb) → I.kd = .glo → mg I.nm = some (.ref (He.ga K I.nm)) := fun {I} hI hk => He.glo_ok X G (says_fa c (q := .glo I.nm) (List.mem_append_left _ (by
    have := List.mem_map_of_mem (f := FI.fa) hI
    rw [show I.fa = .glo I.nm from by unfold FI.fa; rw [hk]] at this
    exact this)))
  have fre : ∀ x ∈ bltNames, mg x = none := fun x hx => He.free_ok X G (says_fa c (q := .free x) (List.mem_append_right _ (List.mem_append_left _ (List.mem_map_of_mem hx))))
  have fac : ∀ {c0 : Str} {ns : List Str}, (c0, ns) ∈ CT → ∀ q ∈ faC (c0, ns), q.ok K = true := fun {c0 ns} h q hq => says_fa c (List.mem_append_right _ (List.mem_append_right _ (List.mem_flatten.mpr ⟨_, List.mem_map_of_mem h, hq⟩)))
  have look : ∀ {c0 : Str} {ns : List Str}, CT.lookup c0 = some ns → (c0, ns) ∈ CT := fun {c0 ns} h => by
    clear fac c hex T
    induction CT with
    | nil => cases h
    | cons q CT ih =>
      obtain ⟨a, b⟩ := q
      rw [List.lookup_cons] at h
      split at h
      · rename_i e
        cases h
        rw [beq_iff_eq] at e
        rw [e]
        exact List.mem_cons_self
      · exact List.mem_cons_of_mem _ (ih h)
  have clO : ∀ {c0 : Str} {ns : List Str}, CT.lookup c0 = some ns → Cls K (He.ga K c0) ∧ (∀ f ∈ ns, NoAttr K (He.ga K c0) f) ∧ mg c0 = some (.ref (He.ga K c0)) ∧ clB K (He.ga K c0) = true := fun {c0 ns} h => by
    have hm := look h
    refine ⟨He.cls_ok (fac hm (.cls c0) (List.mem_cons_of_mem _ List.mem_cons_self)), fun f hf => He.noat_ok (fac hm (.noat c0 f) (List.mem_cons_of_mem _ (List.mem_cons_of_mem _ (List.mem_map_of_mem hf)))), He.glo_ok X G (fac hm (.glo c0) List.mem_cons_self), ?_⟩
    unfold exB at hex
    exact List.all_eq_true.mp hex _ hm
  have mD : D ∈ D :: S :: L :: (ex ++ tb) := List.mem_cons_self
  have mS : S ∈ D :: S :: L :: (ex ++ tb) := List.mem_cons_of_mem _ List.mem_cons_self
  have mL : L ∈ D :: S :: L :: (ex ++ tb) := List.mem_cons_of_mem _ (List.mem_cons_of_mem _ List.mem_cons_self)
  obtain ⟨fdD, FD⟩ := says_glo c mD T.gk.1
  obtain ⟨fdS, FS⟩ := says_glo c mS T.gk.2.1
  obtain ⟨fdL, FL⟩ := says_glo c mL T.gk.2.2
  have gD := glo mD T.gk.1
  have gS := glo mS T.gk.2.1
  have gL := glo mL T.gk.2.2
  have bndD := FD.bindsN (ps := D.ps) (bnd_glo T.gk.1 (T.bnd D mD))
  have bndS := FS.bindsN (ps := S.ps) (bnd_glo T.gk.2.1 (T.bnd S mS))
  have bndL := FL.bindsA (ps := L.ps) (bnd_glo T.gk.2.2 (T.bnd L mL))
  have kpD := FD.kp
  have kpS := FS.kp
  rw [T.nD.1, T.nD.2.1] at FD
  rw [T.nS.1, T.nS.2.1] at FS
  rw [T.nL.1, T.nL.2.1] at FL
  rw [T.nD.1] at gD
  rw [T.nS.1] at gS
  rw [T.nL.1] at gL
  rw [T.nD.2.2] at bndD
  rw [T.nS.2.2] at bndS
  rw [T.nL.2.2] at bndL
  rw [T.nD.1] at kpD
  rw [T.nS.1] at kpS
  rw [gL] at hfa
  cases hfa
  refine ⟨fdL, fun s v => bndL s [v] rfl, fun base _ _ => ?_⟩
  have hsp : spK ∈ kws → ∃ (fa : Addr) (fd : FuncData), FnOk P w K mg base CXd 11 fa fd ["thing"] (spSpoil 10) ∧ mg "_law_spoilt" = some (.ref fa) ∧ PySem.W.keepIn K (.ref fa) = true ∧ Binds K fd ["thing"] [] := fun hs => by
    obtain ⟨I, hI, hkI, n1, n2, n3, sc, lo, gl, s1, s2, s3, s4, s5, s6, s7, s8, s9, s10, s11, s12, s13, s14, s15, s16, s17, s18, s19, s20, s21, s22, s23, s24, s25, s26, s27, s28, s29, s30, s31, s32, s33, s34, s35, s36, s37, s38, s39, s40, s41, s42, s43, s44, s45, bI, hq⟩ := T.spo hs
    have hm : I ∈ D :: S :: L :: (ex ++ tb) := List.mem_cons_of_mem _ (List.mem_cons_of_mem _ (List.mem_cons_of_mem _ (List.mem_append_left _ hI)))
    obtain ⟨fdI, FI'⟩ := says_glo c hm hkI
    have gI := glo hm hkI
    have bI2 := FI'.bindsN (ps := I.ps) (bnd_glo hkI (T.bnd I hm))
    have kpI := FI'.kp
    rw [n1, n2] at FI'
    rw [n1] at gI
    rw [n3] at bI2
    rw [n1] at kpI
    have gls : ∀ x ∈ (["isinstance", "dict", "list", "tuple", "_law_spoilt"] : List Str), I.scope.names.lookup x = some .globalImplicit := fun x hx => of_decide_eq_true (List.all_eq_true.mp gl x hx)
    exact ⟨_, fdI, ok_spoilt FI' (scopeB_ok sc) (fun x hx => of_decide_eq_true (List.all_eq_true.mp lo x hx)) (gls _ (by decide)) (gls _ (by decide)) (gls _ (by decide)) (gls _ (by decide)) (gls _ (by decide)) bI hq (fre _ (by decide)) (fre _ (by decide)) (fre _ (by decide)) (fre _ (by decide)) gI bI2 10, gI, kpI, bI2⟩
  refine ok_law (cl := ⟨fun c => (CT.lookup c).map fun ns => (He.ga K c, ns), fun a H => ∃ ns : List Int, SqL K H a (ns.map V.int)⟩) (tb := tb) (kws := kws) (N := L.N) (fun I hI => ?_) (fun g I hI => ?_) (fun c0 ns h0 => ?_) (fun g c0 m h0 => ?_) fre ⟨_, fdD, ok_draw FD (scopeB_ok T.sD) (fun x hx => of_decide_eq_true (List.all_eq_true.mp T.lD.1 x hx)) T.lD.2.1 T.lD.2.2 bD hl (fre _ (by decide)) (fre _ (by decide)), gD, kpD, bndD⟩ hsp
    ⟨_, fdS, ok_stream FS (scopeB_ok T.sS) T.lS bS (fre _ (by decide)), gS, kpS, bndS⟩ FL (scopeB_ok T.sL) T.lL.1 T.lL.2.1 T.lL.2.2.1 T.lL.2.2.2.1 T.lL.2.2.2.2 bL hchk (fun _ _ => Iff.rfl) plain
  · have := List.all_eq_true.mp T.ok I hI
    obtain ⟨a, b⟩ := and2 this
    exact ⟨a, scopeB_ok b⟩
  · have hm : I ∈ D :: S :: L :: (ex ++ tb) := List.mem_cons_of_mem _ (List.mem_cons_of_mem _ (List.mem_cons_of_mem _ (List.mem_append_right _ (List.mem_of_getElem? hI))))
    obtain ⟨fd, F⟩ := says_fn c hm
    have gl1 : g < 1000000 := by
      have h1 : g < tb.length := (List.getElem?_eq_some_iff.mp hI).1
      have := T.few
      omega
    have kdI := List.all_eq_true.mp T.kdb I (List.mem_of_getElem? hI)
    refine ⟨_, fd, F, F.bindsN (T.bnd I hm), F.kp, ?_⟩
    have hfa := says_fa c (q := I.fa) (List.mem_append_left _ (List.mem_map_of_mem (f := FI.fa) hm))
    have nk : I.kd ≠ .glo → ∀ ks m ord, (g, ks, m, ord) ∈ kws → ∃ c m, I.kd = .met c m := fun hk ks m ord hq => by
      rcases T.kb _ hq with z | ⟨J, hJ, hkJ, hlt, kb⟩ | ⟨c0, ns, z, _⟩ | ⟨g', c0, m', z, J, hJ, hkJ⟩
      · have e1 : g = 1000000 := congrArg (fun q : KwS => q.1) z
        omega
      · rw [hI] at hJ; cases hJ
        exact absurd hkJ hk
      · have e1 : g = 1000001 := congrArg (fun q : KwS => q.1) z
        omega
      · have e1 : g = g' := congrArg (fun q : KwS => q.1) z
        rw [← e1, hI] at hJ; cases hJ
        exact ⟨_, _, hkJ⟩
    unfold FaC
    unfold FI.fa at hfa
    unfold kdB at kdI
    cases hk : I.kd with
    | glo =>
      rw [show He.fAd K I.at_ = He.ga K I.nm from by unfold FI.at_; rw [hk]; rfl]
      refine ⟨glo hm hk, fun ks m ord hq => ?_⟩
      rcases T.kb _ hq with z | ⟨J, hJ, hkJ, hlt, kb⟩ | ⟨c0, ns, z, _⟩ | ⟨g', c0, m', z, J, hJ, hkJ⟩
      · have e1 : g = 1000000 := congrArg (fun q : KwS => q.1) z
        omega
      · rw [hI] at hJ; cases hJ
        exact kbnd_ok F kb
      · have e1 : g = 1000001 := congrArg (fun q : KwS => q.1) z
        omega
      · have e1 : g = g' := congrArg (fun q : KwS => q.1) z
        rw [← e1, hI] at hJ; cases hJ
        rw [hk] at hkJ; cases hkJ
    | met c0 m =>
      rw [hk] at hfa kdI
      rw [show He.fAd K I.at_ = He.ma K (He.ga K c0) m from by unfold FI.at_; rw [hk]; rfl]
      dsimp only at kdI
      split at kdI
      · rename_i ns hns
        obtain ⟨h1, _⟩ := clO hns
        exact ⟨_, ns, He.meth_ok hfa, by show (CT.lookup c0).map _ = _; rw [hns]; rfl, by simpa using kdI, h1⟩
      · cases kdI
    | ini c0 =>
      rw [hk] at hfa kdI
      rw [show He.fAd K I.at_ = He.ma K (He.ga K c0) "__init__" from by unfold FI.at_; rw [hk]; rfl]
      refine ⟨fun ks m ord hq => ?_, ?_⟩
      · obtain ⟨c1, m1, h1⟩ := nk (by rw [hk]; exact fun z => by cases z) ks m ord hq
        rw [hk] at h1; cases h1
      · obtain ⟨ns, hns⟩ := Option.isSome_iff_exists.mp kdI
        obtain ⟨_, _, h3, _⟩ := clO hns
        exact ⟨_, ns, He.mkr_ok hfa, by show (CT.lookup c0).map _ = _; rw [hns]; rfl, h3⟩
  · rcases T.kb _ h0 with z | ⟨J, hJ, hkJ, hlt, kb⟩ | ⟨c1, ns1, z, hl1, nd⟩ | ⟨g', c1, m', z, J, hJ, hkJ⟩
    · have e1 : 1000001 = 1000000 := congrArg (fun q : KwS => q.1) z
      cases e1
    · have h1 : 1000001 < tb.length := (List.getElem?_eq_some_iff.mp hJ).1
      have := T.few
      omega
    · have e1 : c0 :: ns = c1 :: ns1 := congrArg (fun q : KwS => q.2.1) z
      cases e1
      obtain ⟨h1, h2, h3, h4⟩ := clO hl1
      exact ⟨_, by show (CT.lookup c0).map _ = _; rw [hl1]; rfl, nd, clF_of h1 h4, h2, h3⟩
    · have h1 : g' < tb.length := (List.getElem?_eq_some_iff.mp hJ).1
      have e1 : 1000001 = g' := congrArg (fun q : KwS => q.1) z
      have := T.few
      omega
  · rcases T.kb _ h0 with z | ⟨J, hJ, hkJ, hlt, kb⟩ | ⟨c1, ns1, z, hl1, nd⟩ | ⟨g', c1, m', z, J, hJ, hkJ⟩
    · have e1 : 1000002 = 0 := congrArg (fun q : KwS => q.2.2.1) z
      cases e1
    · exact absurd hlt (by show ¬ (1000002 < 1000); decide)
    · have e1 : 1000002 = 0 := congrArg (fun q : KwS => q.2.2.1) z
      cases e1
    · have e1 : g = g' := congrArg (fun q : KwS => q.1) z
      have e2 : [c0, m] = [c1, m'] := congrArg (fun q : KwS => q.2.1) z
      cases e2
      rw [e1]
      exact ⟨J, hJ, hkJ⟩
end
end DL

set_option maxHeartbeats 8000000
/-! DP1: the evaluator in plain Lean: what many laws' own helpers do. -/
namespace DL
open PySem PySem.Spec PyProof.Rows L2

/-! ### kinds -/
theorem kit_NoneType_int : kitB "NoneType" "int" = some false := by decide +kernel
theorem kit_NoneType_bool : kitB "NoneType" "bool" = some false := by decide +kernel
theorem kit_NoneType_str : kitB "NoneType" "str" = some false := by decide +kernel
theorem kit_NoneType_list : kitB "NoneType" "list" = some false := by decide +kernel
theorem kit_NoneType_tuple : kitB "NoneType" "tuple" = some false := by decide +kernel
theorem kit_NoneType_dict : kitB "NoneType" "dict" = some false := by decide +kernel
theorem kit_bool_int : kitB "bool" "int" = some true := by decide +kernel
theorem kit_bool_bool : kitB "bool" "bool" = some true := by decide +kernel
theorem kit_bool_str : kitB "bool" "str" = some false := by decide +kernel
theorem kit_bool_list : kitB "bool" "list" = some false := by decide +kernel
theorem kit_bool_tuple : kitB "bool" "tuple" = some false := by decide +kernel
theorem kit_bool_dict : kitB "bool" "dict" = some false := by decide +kernel
theorem kit_int_int : kitB "int" "int" = some true := by decide +kernel
theorem kit_int_bool : kitB "int" "bool" = some false := by decide +kernel
theorem kit_int_str : kitB "int" "str" = some false := by decide +kernel
theorem kit_int_list : kitB "int" "list" = some false := by decide +kernel
theorem kit_int_tuple : kitB "int" "tuple" = some false := by decide +kernel
theorem kit_int_dict : kitB "int" "dict" = some false := by decide +kernel
theorem kit_str_int : kitB "str" "int" = some false := by decide +kernel
theorem kit_str_bool : kitB "str" "bool" = some false := by decide +kernel
theorem kit_str_str : kitB "str" "str" = some true := by decide +kernel
theorem kit_str_list : kitB "str" "list" = some false := by decide +kernel
theorem kit_str_tuple : kitB "str" "tuple" = some false := by decide +kernel
theorem kit_str_dict : kitB "str" "dict" = some false := by decide +kernel
theorem kit_list_int : kitB "list" "int" = some false := by decide +kernel
theorem kit_list_bool : kitB "list" "bool" = some false := by decide +kernel
theorem kit_list_str : kitB "list" "str" = some false := by decide +kernel
theorem kit_list_list : kitB "list" "list" = some true := by decide +kernel
theorem kit_list_tuple : kitB "list" "tuple" = some false := by decide +kernel
theorem kit_list_dict : kitB "list" "dict" = some false := by decide +kernel
theorem kit_tuple_int : kitB "tuple" "int" = some false := by decide +kernel
theorem kit_tuple_bool : kitB "tuple" "bool" = some false := by decide +kernel
theorem kit_tuple_str : kitB "tuple" "str" = some false := by decide +kernel
theorem kit_tuple_list : kitB "tuple" "list" = some false := by decide +kernel
theorem kit_tuple_tuple : kitB "tuple" "tuple" = some true := by decide +kernel
theorem kit_tuple_dict : kitB "tuple" "dict" = some false := by decide +kernel
theorem kit_dict_int : kitB "dict" "int" = some false := by decide +kernel
theorem kit_dict_bool : kitB "dict" "bool" = some false := by decide +kernel
theorem kit_dict_str : kitB "dict" "str" = some false := by decide +kernel
theorem kit_dict_list : kitB "dict" "list" = some false := by decide +kernel
theorem kit_dict_tuple : kitB "dict" "tuple" = some false := by decide +kernel
theorem kit_dict_dict : kitB "dict" "dict" = some true := by decide +kernel
def D.kd : D → Bool
  | .strm => false
  | .ins _ _ => false
  | _ => true
theorem isTs_one {d : D} {n : String} {c : Bool} (h : d.kd = true) (e : kitB d.ty n = some c) : isTs d [.t n] = some c := by
  have e2 : isT d (.t n) = some c := by cases d <;> first | exact e | exact absurd h Bool.false_ne_true
  unfold isTs
  rw [e2]
  cases c <;> rfl
/-! ### the law's own look for sameness -/
def fSame (g : Nat) : FD := ⟨2, 4, (.cons (.ife (.tv (.isi (.var 1) [.t "list", .t "tuple"] false))
  (.cons (.ife (.to (.cons (.tc .NotEq (.ex (.isi (.var 0) [.t "list"] true)) (.ex (.isi (.var 1) [.t "list"] true))) (.cons (.tc .NotEq (.ex (.isi (.var 0) [.t "tuple"] true)) (.ex (.isi (.var 1) [.t "tuple"] true))) .nil)))
  (.cons (.ret (.bl false))
  .nil)
  .nil)
  (.cons (.ret (.andV (.cons (.cmp .Eq (.ex (.bi .len (.ex (.var 0)))) (.ex (.bi .len (.ex (.var 1))))) (.cons (.bi .all (.ex (.nl (.comp (.call g (.cons (.var 2) (.cons (.var 3) .nil))) [2, 3] [2, 3] (.zip (.ex (.var 0)) (.ex (.var 1))) .nil)))) .nil))))
  .nil))
  .nil)
  (.cons (.ife (.tv (.isi (.var 1) [.t "dict"] true))
  .nev
  .nil)
  (.cons (.ife (.to (.cons (.tv (.isi (.var 1) [.t "bool"] true)) (.cons (.tv (.isi (.var 0) [.t "bool"] true)) .nil)))
  (.cons (.ret (.andV (.cons (.isi (.var 1) [.t "bool"] true) (.cons (.isi (.var 0) [.t "bool"] true) (.cons (.cmp .Eq (.ex (.var 0)) (.ex (.var 1))) .nil)))))
  .nil)
  .nil)
  (.cons (.ife (.to (.cons (.tc .Is (.ex (.var 1)) (.ex .non)) (.cons (.tc .Is (.ex (.var 0)) (.ex .non)) .nil)))
  (.cons (.ret (.andV (.cons (.cmp .Is (.ex (.var 1)) (.ex .non)) (.cons (.cmp .Is (.ex (.var 0)) (.ex .non)) .nil))))
  .nil)
  .nil)
  (.cons (.ife (.to (.cons (.tc .NotEq (.ex (.isi (.var 1) [.t "int"] true)) (.ex (.isi (.var 0) [.t "int"] true))) (.cons (.tc .NotEq (.ex (.isi (.var 1) [.t "str"] true)) (.ex (.isi (.var 0) [.t "str"] true))) .nil)))
  (.cons (.ret (.bl false))
  .nil)
  .nil)
  (.cons (.ret (.andV (.cons (.not (.isi (.var 0) [.t "list", .t "tuple", .t "dict"] false)) (.cons (.cmp .Eq (.ex (.var 0)) (.ex (.var 1))) .nil))))
  .nil))))))⟩
/-! plain data: what may be looked at -/
mutual
def D.pl : D → Bool
  | .non => true | .bl _ => true | .int _ => true
  | .str x => PyData.strOk x
  | .lst xs => decide (xs.length ≤ sizeLine) && D.pls xs
  | .tup xs => decide (xs.length ≤ sizeLine) && D.pls xs
  | _ => false
def D.pls : List D → Bool
  | [] => true
  | d :: ds => d.pl && D.pls ds
end

theorem eqv_int (i j : Int) : PyData.eqv (.int i) (.int j) = decide (i = j) := by
  rw [PyData.eqv]
  by_cases h : i = j <;> simp [h]
theorem eqv_bool (i j : Bool) : PyData.eqv (.bool i) (.bool j) = decide (i = j) := by
  cases i <;> cases j <;> rfl
theorem eqv_str (i j : Str) : PyData.eqv (.str i) (.str j) = decide (i = j) := by
  rw [PyData.eqv]
  by_cases h : i = j
  · rw [decide_eq_true h]; exact beq_iff_eq.mpr h
  · rw [decide_eq_false h]; exact beq_eq_false_iff_ne.mpr h
theorem shInt (i : Int) : SeqAt.shaped (.int i) = true := by simp [SeqAt.shaped, PyData.canLay0, PyData.depth]
theorem shBool (i : Bool) : SeqAt.shaped (.bool i) = true := by simp [SeqAt.shaped, PyData.canLay0, PyData.depth]
theorem shNone : SeqAt.shaped .none = true := by simp [SeqAt.shaped, PyData.canLay0, PyData.depth]
theorem compGo_map {turn : List DB → Nat → (Option DB → Nat → Prop) → Prop} {n : Nat} {K : List D → Bool → Nat → Prop} (res : List DB → DB) : ∀ (items : List (List DB)) (acc : List D) (b : Bool), (∀ it ∈ items, ∀ k : Option DB → Nat → Prop, k (some (res it)) n → turn it n k) → acc.length + items.length ≤ sizeLine →
    K (acc ++ items.map fun it => (res it).1) (b && items.all fun it => (res it).2) n → compGo turn items acc b n K
  | [], acc, b, _, _, hK => by
    unfold compGo
    simpa using hK
  | it :: items, acc, b, h, hl, hK => by
    unfold compGo
    refine h it List.mem_cons_self _ ⟨by rw [List.length_cons] at hl; omega, ?_⟩
    refine compGo_map res items _ _ (fun it' hi => h it' (List.mem_cons_of_mem _ hi)) (by rw [List.length_append, List.length_cons, List.length_nil]; rw [List.length_cons] at hl; omega) ?_
    simpa [Bool.and_assoc] using hK
theorem pls_mem : ∀ {xs : List D} {x : D}, D.pls xs = true → x ∈ xs → x.pl = true
  | y :: ys, x, h, hm => by
    unfold D.pls at h
    rcases List.mem_cons.mp hm with e | e
    · rw [e]; exact (and2 h).1
    · exact pls_mem (and2 h).2 e
theorem deps_mem : ∀ {xs : List D} {x : D}, x ∈ xs → x.dep ≤ D.deps xs
  | y :: ys, x, hm => by
    unfold D.deps
    rcases List.mem_cons.mp hm with e | e
    · rw [e]; exact Nat.le_max_left _ _
    · exact Nat.le_trans (deps_mem e) (Nat.le_max_right _ _)
theorem blsOf_true : ∀ m : Nat, blsOf (List.replicate m (D.bl true)) = some (List.replicate m true)
  | 0 => rfl
  | m + 1 => by
    rw [List.replicate_succ, List.replicate_succ]
    unfold blsOf
    rw [blsOf_true m]; rfl
theorem all_true : ∀ m : Nat, (List.replicate m true).all id = true
  | 0 => rfl
  | m + 1 => by rw [List.replicate_succ, List.all_cons, all_true m]; rfl
section
variable {tb : List FD} {g : Nat} (hg : tb[g]? = some (fSame g))
include hg
theorem same_seq {D0 n : Nat} {k : KE} {xs : List D} (t : Bool) (hl : xs.length ≤ sizeLine) (h : ∀ x ∈ xs, ∀ (n : Nat) (k : KE), k (.bl true, true) n → evF tb D0 g [x, x] n k) (hk : k (.bl true, true) n) :
    evF tb (D0 + 1) g [if t = true then .lst xs else .tup xs, if t = true then .lst xs else .tup xs] n k := by
  have go : ∀ (f : Fr) (K : List D → Bool → Nat → Prop), K (List.replicate xs.length (.bl true)) true n → 4 ≤ f.length → compGo (fun vs n k => ∃ f', bindT (wipeF f [2, 3]) [2, 3] vs = some f' ∧ evTall (evF tb D0) .nil f' n fun t n1 => if t = true then evE (evF tb D0) (.call g (.cons (.var 2) (.cons (.var 3) .nil))) f' n1 fun r n2 => k (some r) n2 else k none n1)
      (List.zipWith (fun d e => [(d, fl false d), (e, fl false e)]) xs xs) [] true n K := fun f K hK hf => by
    refine compGo_map (fun _ => (.bl true, true)) _ _ _ (fun it hit k hk => ?_) (by simpa using hl) ?_
    · rw [List.zipWith_self] at hit
      obtain ⟨x, hx, rfl⟩ := List.mem_map.mp hit
      refine ⟨_, bindT_two.trans rfl, ?_⟩
      have l2 : 3 < (wipeF f [2, 3]).length := by simp [wipeF]; omega
      simp only [evTall, if_true, evE, evEs, List.getElem?_set]
      simp [l2, show 2 < (wipeF f [2, 3]).length by omega]
      exact h x hx _ _ hk
    · rw [List.zipWith_self]
      simp only [List.nil_append, List.map_map, Bool.true_and]
      have e1 : (xs.map ((fun _ => D.bl true) ∘ fun d => [(d, fl false d), (d, fl false d)])) = List.replicate xs.length (D.bl true) := by
        rw [List.eq_replicate_iff]
        simp
      have e2 : ((xs.map fun d => [(d, fl false d), (d, fl false d)]).all fun _ => true) = true := by simp
      have e1' : List.map ((fun it => ((fun (_ : List DB) => ((D.bl true, true) : DB)) it).1) ∘ fun d => [(d, fl false d), (d, fl false d)]) xs = List.replicate xs.length (D.bl true) := e1
      rw [e1', e2]
      exact hK
  have go2 : ∀ (K : List D → Bool → Nat → Prop) (d : D), d = (if t = true then .lst xs else .tup xs) → K (List.replicate xs.length (.bl true)) true n →
      evL (evF tb D0) (.comp (.call g (.cons (.var 2) (.cons (.var 3) .nil))) [2, 3] [2, 3] (.zip (.ex (.var 0)) (.ex (.var 1))) .nil) [.v d false, .v d false, .no, .no] n K := fun K d e hK => by
    subst e
    cases t with
    | true => exact go _ K hK (by simp)
    | false => exact go _ K hK (by simp)
  have fin : blsOf (List.replicate xs.length (D.bl true)) = some (List.replicate xs.length true) := blsOf_true _
  cases t with
  | true =>
    unfold evF
    rw [hg]
    refine ⟨rfl, ?_⟩
    simp only [if_true, fSame, startF, evSs, evS, evT, evTany, evE, evO, evAnd]
    simp [isTs, isT, D.ty, cmpD, D.toP, shBool, shInt, eqv_int, eqv_bool, biD, D.scal, truD, kit_NoneType_int, kit_NoneType_bool, kit_NoneType_str, kit_NoneType_list, kit_NoneType_tuple, kit_NoneType_dict, kit_bool_int, kit_bool_bool, kit_bool_str, kit_bool_list, kit_bool_tuple, kit_bool_dict, kit_int_int, kit_int_bool, kit_int_str, kit_int_list, kit_int_tuple, kit_int_dict, kit_str_int, kit_str_bool, kit_str_str, kit_str_list, kit_str_tuple, kit_str_dict, kit_list_int, kit_list_bool, kit_list_str, kit_list_list, kit_list_tuple, kit_list_dict, kit_tuple_int, kit_tuple_bool, kit_tuple_str, kit_tuple_list, kit_tuple_tuple, kit_tuple_dict, kit_dict_int, kit_dict_bool, kit_dict_str, kit_dict_list, kit_dict_tuple, kit_dict_dict]
    exact go2 _ _ rfl ⟨_, fin, by rw [all_true]; exact hk⟩
  | false =>
    unfold evF
    rw [hg]
    refine ⟨rfl, ?_⟩
    simp only [if_false, fSame, startF, evSs, evS, evT, evTany, evE, evO, evAnd]
    simp [isTs, isT, D.ty, cmpD, D.toP, shBool, shInt, eqv_int, eqv_bool, biD, D.scal, truD, kit_NoneType_int, kit_NoneType_bool, kit_NoneType_str, kit_NoneType_list, kit_NoneType_tuple, kit_NoneType_dict, kit_bool_int, kit_bool_bool, kit_bool_str, kit_bool_list, kit_bool_tuple, kit_bool_dict, kit_int_int, kit_int_bool, kit_int_str, kit_int_list, kit_int_tuple, kit_int_dict, kit_str_int, kit_str_bool, kit_str_str, kit_str_list, kit_str_tuple, kit_str_dict, kit_list_int, kit_list_bool, kit_list_str, kit_list_list, kit_list_tuple, kit_list_dict, kit_tuple_int, kit_tuple_bool, kit_tuple_str, kit_tuple_list, kit_tuple_tuple, kit_tuple_dict, kit_dict_int, kit_dict_bool, kit_dict_str, kit_dict_list, kit_dict_tuple, kit_dict_dict]
    exact go2 _ _ rfl ⟨_, fin, by rw [all_true]; exact hk⟩
theorem same_sc {D0 n : Nat} {k : KE} {d : D} (hs : d.scal = true) (hp : d.pl = true) (hk : k (.bl true, true) n) : evF tb (D0 + 1) g [d, d] n k := by
  unfold evF
  rw [hg]
  refine ⟨rfl, ?_⟩
  cases d with
  | non =>
    simp only [fSame, startF, evSs, evS, evT, evTany, evE, evO, evAnd]
    simp [isTs, isT, D.ty, cmpD, D.toP, shBool, shInt, eqv_int, eqv_bool, biD, D.scal, truD, D.isNon, kit_NoneType_int, kit_NoneType_bool, kit_NoneType_str, kit_NoneType_list, kit_NoneType_tuple, kit_NoneType_dict, kit_bool_int, kit_bool_bool, kit_bool_str, kit_bool_list, kit_bool_tuple, kit_bool_dict, kit_int_int, kit_int_bool, kit_int_str, kit_int_list, kit_int_tuple, kit_int_dict, kit_str_int, kit_str_bool, kit_str_str, kit_str_list, kit_str_tuple, kit_str_dict, kit_list_int, kit_list_bool, kit_list_str, kit_list_list, kit_list_tuple, kit_list_dict, kit_tuple_int, kit_tuple_bool, kit_tuple_str, kit_tuple_list, kit_tuple_tuple, kit_tuple_dict, kit_dict_int, kit_dict_bool, kit_dict_str, kit_dict_list, kit_dict_tuple, kit_dict_dict]
    exact hk
  | bl b =>
    simp only [fSame, startF, evSs, evS, evT, evTany, evE, evO, evAnd]
    simp [isTs, isT, D.ty, cmpD, D.toP, shBool, shInt, eqv_int, eqv_bool, biD, D.scal, truD, D.isNon, kit_NoneType_int, kit_NoneType_bool, kit_NoneType_str, kit_NoneType_list, kit_NoneType_tuple, kit_NoneType_dict, kit_bool_int, kit_bool_bool, kit_bool_str, kit_bool_list, kit_bool_tuple, kit_bool_dict, kit_int_int, kit_int_bool, kit_int_str, kit_int_list, kit_int_tuple, kit_int_dict, kit_str_int, kit_str_bool, kit_str_str, kit_str_list, kit_str_tuple, kit_str_dict, kit_list_int, kit_list_bool, kit_list_str, kit_list_list, kit_list_tuple, kit_list_dict, kit_tuple_int, kit_tuple_bool, kit_tuple_str, kit_tuple_list, kit_tuple_tuple, kit_tuple_dict, kit_dict_int, kit_dict_bool, kit_dict_str, kit_dict_list, kit_dict_tuple, kit_dict_dict]
    exact hk
  | int i =>
    simp only [fSame, startF, evSs, evS, evT, evTany, evE, evO, evAnd]
    simp [isTs, isT, D.ty, cmpD, D.toP, shBool, shInt, eqv_int, eqv_bool, biD, D.scal, truD, D.isNon, kit_NoneType_int, kit_NoneType_bool, kit_NoneType_str, kit_NoneType_list, kit_NoneType_tuple, kit_NoneType_dict, kit_bool_int, kit_bool_bool, kit_bool_str, kit_bool_list, kit_bool_tuple, kit_bool_dict, kit_int_int, kit_int_bool, kit_int_str, kit_int_list, kit_int_tuple, kit_int_dict, kit_str_int, kit_str_bool, kit_str_str, kit_str_list, kit_str_tuple, kit_str_dict, kit_list_int, kit_list_bool, kit_list_str, kit_list_list, kit_list_tuple, kit_list_dict, kit_tuple_int, kit_tuple_bool, kit_tuple_str, kit_tuple_list, kit_tuple_tuple, kit_tuple_dict, kit_dict_int, kit_dict_bool, kit_dict_str, kit_dict_list, kit_dict_tuple, kit_dict_dict]
    exact hk
  | str x =>
    have hx : SeqAt.shaped (.str x) = true := by
      have h : PyData.strOk x = true := by unfold D.pl at hp; exact hp
      simp [SeqAt.shaped, PyData.canLay0, PyData.depth, h]
    simp only [fSame, startF, evSs, evS, evT, evTany, evE, evO, evAnd]
    simp [isTs, isT, D.ty, cmpD, D.toP, shBool, shInt, eqv_int, eqv_bool, eqv_str, hx, biD, D.scal, truD, D.isNon, kit_NoneType_int, kit_NoneType_bool, kit_NoneType_str, kit_NoneType_list, kit_NoneType_tuple, kit_NoneType_dict, kit_bool_int, kit_bool_bool, kit_bool_str, kit_bool_list, kit_bool_tuple, kit_bool_dict, kit_int_int, kit_int_bool, kit_int_str, kit_int_list, kit_int_tuple, kit_int_dict, kit_str_int, kit_str_bool, kit_str_str, kit_str_list, kit_str_tuple, kit_str_dict, kit_list_int, kit_list_bool, kit_list_str, kit_list_list, kit_list_tuple, kit_list_dict, kit_tuple_int, kit_tuple_bool, kit_tuple_str, kit_tuple_list, kit_tuple_tuple, kit_tuple_dict, kit_dict_int, kit_dict_bool, kit_dict_str, kit_dict_list, kit_dict_tuple, kit_dict_dict]
    exact hk
  | _ => exact absurd hs Bool.false_ne_true
/-- the same as itself -/
theorem same_ok : ∀ (D0 : Nat) (d : D), d.pl = true → d.dep < D0 → ∀ (n : Nat) (k : KE), k (.bl true, true) n → evF tb D0 g [d, d] n k
  | 0, d, _, hd, _, _, _ => absurd hd (Nat.not_lt_zero _)
  | D0 + 1, d, hp, hd, n, k, hk => by
    cases d with
    | lst xs =>
      unfold D.pl at hp
      unfold D.dep at hd
      obtain ⟨p1, p2⟩ := and2 hp
      exact same_seq hg true (of_decide_eq_true p1) (fun x hx n k hk => same_ok D0 x (pls_mem p2 hx) (by have := deps_mem hx; omega) n k hk) hk
    | tup xs =>
      unfold D.pl at hp
      unfold D.dep at hd
      obtain ⟨p1, p2⟩ := and2 hp
      exact same_seq hg false (of_decide_eq_true p1) (fun x hx n k hk => same_ok D0 x (pls_mem p2 hx) (by have := deps_mem hx; omega) n k hk) hk
    | non => exact same_sc hg rfl rfl hk
    | bl b => exact same_sc hg rfl rfl hk
    | int i => exact same_sc hg rfl rfl hk
    | str x => exact same_sc hg rfl hp hk
    | _ => exact absurd hp (by unfold D.pl; exact Bool.false_ne_true)
end
end DL

set_option maxHeartbeats 4000000
/-! DP2: loops by invariants. -/
namespace DL
open PySem PySem.Spec PyProof.Rows L2
section
variable {cf : Nat → List D → Nat → KE → Prop}
theorem evF_at {tb : List FD} {d g : Nat} {F : FD} {ds : List D} {n : Nat} {k : KE} (h : tb[g]? = some F) : evF tb (d + 1) g ds n k = (F.np = ds.length ∧ evSs (evF tb d) F.body ⟨fun _ n => k (.non, true) n, k, fun _ _ => False⟩ (startF F.ns ds) n) := by
  conv => lhs; unfold evF
  rw [h]
theorem whl_inv {c : XT} {b : XSs} {K : DE} (I : Nat → Fr → Nat → Prop) {m : Nat} {f : Fr} {n : Nat} (h0 : I m f n)
    (hstep : ∀ m f n (W : Fr → Nat → Prop), I m f n → (∀ m' f' n', m' < m → I m' f' n' → W f' n') → evT cf c f n fun t n1 => if t = true then evSs cf b ⟨W, K.rt, W⟩ f n1 else K.nx f n1) : evS cf (.whl c b) K f n := by
  have key : ∀ m f n, (∃ m', m' ≤ m ∧ I m' f n) → whGo (fun f n k => evT cf c f n k) (fun K f n => evSs cf b K f n) (m + 1) K f n := by
    intro m
    induction m with
    | zero =>
      rintro f n ⟨m', hm, h⟩
      exact hstep m' f n _ h fun m2 f' n' h2 _ => absurd h2 (by omega)
    | succ m ih =>
      rintro f n ⟨m', hm, h⟩
      exact hstep m' f n _ h fun m2 f' n' h2 hI => ih f' n' ⟨m2, by omega, hI⟩
  exact ⟨m + 1, key m f n ⟨m, Nat.le_refl _, h0⟩⟩
theorem forGo_inv {ts : List Nat} {b : XSs} {K : DE} (I : Nat → Fr → Nat → Prop) {items : List (List DB)} {f : Fr} {n : Nat} (h0 : I 0 f n)
    (hstep : ∀ i (hi : i < items.length) f n (W : Fr → Nat → Prop), I i f n → (∀ f' n', I (i + 1) f' n' → W f' n') → ∃ f', bindT f ts items[i] = some f' ∧ evSs cf b ⟨W, K.rt, W⟩ f' n)
    (hend : ∀ f n, I items.length f n → K.nx f n) : forGo (fun vs f n K => ∃ f', bindT f ts vs = some f' ∧ evSs cf b K f' n) items K f n := by
  have key : ∀ m i f n, i + m = items.length → I i f n → forGo (fun vs f n K => ∃ f', bindT f ts vs = some f' ∧ evSs cf b K f' n) (items.drop i) K f n := by
    intro m
    induction m with
    | zero =>
      intro i f n e h
      have : i = items.length := by omega
      subst this
      rw [List.drop_length]
      exact hend f n h
    | succ m ih =>
      intro i f n e h
      have hi : i < items.length := by omega
      rw [List.drop_eq_getElem_cons hi]
      exact hstep i hi f n _ h fun f' n' h' => ih (i + 1) f' n' (by omega) h'
  exact key items.length 0 f n (by omega) h0
/-- for x in range(..) -/
theorem rng_inv {t : Nat} {e : XE} {b : XSs} {K : DE} (I : Nat → Fr → Nat → Prop) {m : Nat} {f : Fr} {n n1 : Nat} (he : ∀ k : KE, k (.int (m : Nat), true) n1 → evE cf e f n k) (hm : m < 2 ^ 62) (h0 : I 0 f n1)
    (hstep : ∀ i, i < m → ∀ f n (W : Fr → Nat → Prop), I i f n → (∀ f' n', I (i + 1) f' n' → W f' n') → evSs cf b ⟨W, K.rt, W⟩ (f.set t (.v (.int (i : Nat)) true)) n)
    (hend : ∀ f n, I m f n → K.nx f n) : evS cf (.for [t] (.rng1 e) b) K f n := by
  refine he _ ⟨by omega, by omega, ?_⟩
  have hl : ((List.range ((m : Nat) : Int).toNat).map fun i => [((.int (i : Nat), true) : DB)]).length = m := by simp
  refine forGo_inv I h0 (fun i hi f n W hI hW => ?_) (fun f n h => hend f n (by rw [hl] at h; exact h))
  rw [hl] at hi
  refine ⟨_, ?_, hstep i hi f n W hI hW⟩
  simp [bindT]
end
end DL

set_option maxHeartbeats 4000000
/-! DP3: small things for the plain laws. -/
namespace DL
open PySem PySem.Spec PyProof.Rows L2
theorem lookK_map3 {κ α : Type} [DecidableEq κ] (f : α → κ) (g : α → D) (j : κ) : ∀ is : List α, lookK (is.map f) (is.map g) j = (is.find? fun i => decide (f i = j)).map g
  | [] => rfl
  | i :: is => by
    rw [List.map_cons, List.map_cons]
    unfold lookK
    rw [List.find?_cons, lookK_map3 f g j is]
    by_cases h : f i = j
    · rw [if_pos h, decide_eq_true h]; rfl
    · rw [if_neg h, decide_eq_false h]
theorem lookN {κ : Type} [DecidableEq κ] {f : Nat → κ} {g : Nat → D} {j : κ} {n : Nat} (h : ∀ i, i < n → f i ≠ j) : lookK ((List.range n).map f) ((List.range n).map g) j = none := by
  rw [lookK_map3, List.find?_eq_none.mpr fun i hi => by simpa using h i (List.mem_range.mp hi)]
  rfl
theorem lookS {κ : Type} [DecidableEq κ] {f : Nat → κ} {g : Nat → D} {j : κ} {n i : Nat} (hi : i < n) (hj : f i = j) (h : ∀ k, k < n → f k = j → k = i) : lookK ((List.range n).map f) ((List.range n).map g) j = some (g i) := by
  rw [lookK_map3]
  cases q : (List.range n).find? fun i => decide (f i = j) with
  | none => exact absurd hj (by simpa using List.find?_eq_none.mp q i (List.mem_range.mpr hi))
  | some k =>
    have h1 := List.find?_some q
    have h2 := List.mem_range.mp (List.mem_of_find?_eq_some q)
    rw [h k h2 (of_decide_eq_true h1)]; rfl
theorem putN {κ : Type} [DecidableEq κ] {f : Nat → κ} {g : Nat → D} {n : Nat} (h : ∀ i, i < n → f i ≠ f n) : putKs ((List.range n).map f) (f n) = (List.range (n + 1)).map f ∧ putXs ((List.range n).map f) ((List.range n).map g) (f n) (g n) = (List.range (n + 1)).map g := by
  have hm : f n ∉ (List.range n).map f := fun z => by
    obtain ⟨i, h1, h2⟩ := List.mem_map.mp z
    exact h i (List.mem_range.mp h1) h2
  unfold putKs putXs
  rw [if_neg hm, if_neg hm, List.range_succ, List.map_append, List.map_append]
  exact ⟨rfl, rfl⟩
theorem atNeg {xs : List D} {j : Nat} (h1 : 1 ≤ j) (h : j ≤ xs.length) : atI xs (-(j : Int)) = xs[xs.length - j]? := by
  unfold atI ixN
  rw [if_neg (by omega), if_pos (by omega)]
  show xs[(-(j : Int) + (xs.length : Int)).toNat]? = _
  congr 1
  omega
theorem atNat {xs : List D} {j : Nat} (h : j < xs.length) : atI xs (j : Int) = xs[j]? := by
  unfold atI ixN
  rw [if_pos (by omega), if_pos (by omega)]
  show xs[(j : Int).toNat]? = _
  congr 1
theorem leZ {α : Type} {xs : List α} (h : Nat.ble xs.length 100 = true) : xs.length ≤ sizeLine := by rw [sizeLine_eq]; exact Nat.le_trans (Nat.le_of_ble_eq_true h) (by decide)
theorem leK {k : Nat} (h : Nat.ble k 100 = true) : k ≤ sizeLine := by rw [sizeLine_eq]; exact Nat.le_trans (Nat.le_of_ble_eq_true h) (by decide)
theorem logL {x : Int} {k : Nat} (h : x.natAbs ≤ 2 ^ k) : x.natAbs.log2 ≤ k := by
  by_cases z : x.natAbs = 0
  · rw [z]; simp
  · have := (Nat.log2_lt (n := x.natAbs) (k := k + 1) z).mpr (by rw [Nat.pow_succ]; have := Nat.pow_pos (n := k) (show 0 < 2 by decide); omega)
    omega
theorem mulL {x y : Int} {a b : Nat} (hx : x.natAbs ≤ 2 ^ a) (hy : y.natAbs ≤ 2 ^ b) (h : a + b < 1000000) : MulOk x y := .inl (by
  have := logL hx
  have := logL hy
  show x.natAbs.log2 + y.natAbs.log2 < 1000000
  omega)
theorem mul60 {x y : Int} (hx : x.natAbs ≤ 2 ^ 62) (hy : y.natAbs ≤ 2 ^ 62) : MulOk x y := mulL hx hy (by decide)
theorem divL {x y : Int} (hy : 0 < y) (hx : x.natAbs < 2 ^ 64) (hy2 : y.natAbs < 2 ^ 64) : CDivW x y := ⟨by omega, by
  have a := logL (x := x) (k := 64) (by omega)
  have b := logL (x := y) (k := 64) (by omega)
  omega⟩
section
variable {cf : Nat → List D → Nat → KE → Prop}
theorem evSs_expr {e : XE} {ss : XSs} {K : DE} {f : Fr} {n : Nat} : evSs cf (.cons (.expr e) ss) K f n = evE cf e f n (fun _ n1 => evSs cf ss K f n1) := rfl
/-- for x in xs -/
theorem over_inv {t : Nat} {b : XSs} {K : DE} {xs : List D} {fb : Bool} (I : Nat → Fr → Nat → Prop) {f : Fr} {n : Nat} (h0 : I 0 f n)
    (hstep : ∀ i (hi : i < xs.length) f n (W : Fr → Nat → Prop), I i f n → (∀ f' n', I (i + 1) f' n' → W f' n') → evSs cf b ⟨W, K.rt, W⟩ (f.set t (.v xs[i] (fl fb xs[i]))) n)
    (hend : ∀ f n, I xs.length f n → K.nx f n) : forGo (fun vs f n K => ∃ f', bindT f [t] vs = some f' ∧ evSs cf b K f' n) (xs.map fun d => [(d, fl fb d)]) K f n := by
  refine forGo_inv I h0 (fun i hi f n W hI hW => ?_) (fun f n h => hend f n (by rw [List.length_map] at h; exact h))
  have hi' : i < xs.length := by rw [List.length_map] at hi; exact hi
  refine ⟨_, ?_, hstep i hi' f n W hI hW⟩
  rw [List.getElem_map]
  rfl
end
theorem tnK {cf : Nat → List D → Nat → KE → Prop} {A : Prop} {K : DE} {f : DL.Fr} {n : Nat} (h : K.nx f n) : if (!true) = true then A else evSs cf .nil K f n := h
theorem ints_all : ∀ xs : List D, (∀ x ∈ xs, ∃ i, x = D.int i) → D.pls xs = true ∧ D.muts xs = true ∧ D.deps xs = 0 ∧ D.mxs xs = 0 ∧ D.nods xs = 0
  | [], _ => by unfold D.pls D.muts D.deps D.mxs D.nods; exact ⟨rfl, rfl, rfl, rfl, rfl⟩
  | x :: xs, h => by
    obtain ⟨i, rfl⟩ := h x List.mem_cons_self
    obtain ⟨h1, h2, h3, h4, h5⟩ := ints_all xs fun y hy => h y (List.mem_cons_of_mem _ hy)
    unfold D.pls D.muts D.deps D.mxs D.nods
    rw [h1, h2, h3, h4, h5]
    exact ⟨rfl, rfl, rfl, rfl, rfl⟩
end DL

set_option maxHeartbeats 4000000
/-! DP4: repr of lists and tuples of numbers. -/
namespace DL
open PySem PySem.Spec PyProof.Rows L2
theorem ok_app {x y : Str} (hx : PyData.strOk x = true) (hy : PyData.strOk y = true) : PyData.strOk (x ++ y) = true := by
  unfold PyData.strOk at *
  show (x.cps ++ y.cps).all _ = true
  rw [Array.all_append, hx, hy]; rfl
theorem ok_of (s : String) : PyData.strOk (Str.ofString s) = true := by
  unfold PyData.strOk
  rw [Str.ofString_eq_toList, Array.all_eq_true']
  intro n hn
  simp at hn
  obtain ⟨c, _, rfl⟩ := hn
  have := c.valid
  apply decide_eq_true
  rcases this with h | ⟨_, h⟩
  · exact Nat.lt_of_lt_of_le h (by decide)
  · exact h
theorem ok_from : ∀ (ts : List Str) (k : Nat) (acc : Str), PyData.strOk acc = true → (∀ t ∈ ts, PyData.strOk t = true) → PyData.strOk (textFrom k acc ts) = true
  | [], k, acc, h, _ => h
  | t :: ts, k, acc, h, ht => ok_from ts (k + 1) _ (ok_app (ok_app h (ok_of _)) (ht t List.mem_cons_self)) fun u hu => ht u (List.mem_cons_of_mem _ hu)
theorem ok_join : ∀ ts : List Str, (∀ t ∈ ts, PyData.strOk t = true) → PyData.strOk (Str.join ", " ts) = true
  | [], _ => ok_of ""
  | [t], h => h t List.mem_cons_self
  | t :: u :: ts, h => ok_app (ok_app (h t List.mem_cons_self) (ok_of ", ")) (ok_join (u :: ts) fun z hz => h z (List.mem_cons_of_mem _ hz))
theorem from_le : ∀ (ts : List Str) (k : Nat) (acc : Str), (textFrom k acc ts).length ≤ acc.length + piled ts
  | [], k, acc => Nat.le_add_right _ _
  | t :: ts, k, acc => by
    have h := from_le ts (k + 1) (acc ++ (if k > 0 then ", " else "" : String) ++ t)
    have e : (acc ++ (if k > 0 then ", " else "" : String) ++ t).length ≤ acc.length + 2 + t.length := by
      rw [strLen_append, strLen_append]
      have : (((if k > 0 then ", " else "" : String) : Str)).length ≤ 2 := by split <;> decide
      omega
    show (textFrom (k + 1) _ ts).length ≤ _
    rw [piled_cons]
    omega
theorem piled_le : ∀ (ts : List Str) (m : Nat), (∀ t ∈ ts, t.length ≤ m) → piled ts ≤ ts.length * (m + 2)
  | [], m, _ => by simp [piled]
  | t :: ts, m, h => by
    rw [piled_cons, List.length_cons, Nat.add_mul, Nat.one_mul]
    have a := h t List.mem_cons_self
    have b := piled_le ts m fun u hu => h u (List.mem_cons_of_mem _ hu)
    omega
theorem toPs_ints : ∀ ns : List Int, D.toPs (ns.map D.int) = some (ns.map PyData.int)
  | [] => rfl
  | n :: ns => by
    rw [List.map_cons, List.map_cons]
    unfold D.toPs
    rw [toPs_ints ns]
    rfl
theorem shownAll_ints : ∀ ns : List Int, PyData.shownAll (ns.map PyData.int) = ns.map fun i => (Str.ofString (toString i))
  | [] => rfl
  | n :: ns => by
    rw [List.map_cons, List.map_cons]
    unfold PyData.shownAll
    rw [shownAll_ints ns]
    unfold PyData.shown
    rfl
theorem showAll_ints : ∀ ns : List Int, (∀ i ∈ ns, 0 ≤ i ∧ i < 10 ^ 9) → PyData.showableAll (ns.map PyData.int) = true ∧ PyData.hasDictAll (ns.map PyData.int) = false ∧ PyData.depthAll (ns.map PyData.int) ≤ 1
  | [], _ => by simp [PyData.showableAll, PyData.hasDictAll, PyData.depthAll]
  | n :: ns, h => by
    obtain ⟨a, b, c⟩ := showAll_ints ns fun i hi => h i (List.mem_cons_of_mem _ hi)
    obtain ⟨h0, h1⟩ := h n List.mem_cons_self
    have l : n.natAbs.log2 < 1920 := by
      have := logL (x := n) (k := 60) (by omega)
      omega
    rw [List.map_cons]
    simp [PyData.showableAll, PyData.hasDictAll, PyData.depthAll, PyData.showable, PyData.hasDict, PyData.depth, a, b, l]
    omega
/-- one text stands for it -/
theorem repr_ints (ns : List Int) (t : Bool) (h : ∀ i ∈ ns, 0 ≤ i ∧ i < 10 ^ 9) (hl : ns.length ≤ 1000) :
    ∃ s : Str, PyData.strOk s = true ∧ ∀ (b : Bool) (k : DB → Prop), k (.str s, true) → biD .repr (if t = true then .lst (ns.map D.int) else .tup (ns.map D.int), b) k := by
  obtain ⟨h1, h2, h3⟩ := showAll_ints ns h
  have ok : ∀ x ∈ ns.map (fun i => (Str.ofString (toString i))), PyData.strOk x = true := fun x hx => by
    obtain ⟨i, _, rfl⟩ := List.mem_map.mp hx
    exact ok_of _
  have len : ∀ x ∈ ns.map (fun i => (Str.ofString (toString i))), x.length ≤ 9 := fun x hx => by
    obtain ⟨i, hi, rfl⟩ := List.mem_map.mp hx
    exact toString_length_le (h i hi).1 (by decide) (h i hi).2
  have pl := piled_le _ 9 len
  rw [List.length_map] at pl
  have sz : sizeLine = 2 ^ 53 ∨ 100000 ≤ sizeLine := .inr (by rw [sizeLine_eq]; decide)
  have big : 100000 ≤ sizeLine := by rw [sizeLine_eq]; decide
  cases t with
  | true =>
    refine ⟨listText (ns.map fun i => (Str.ofString (toString i))), ok_app (ok_from _ _ _ (ok_of _) ok) (ok_of _), fun b k hk => ⟨.list (ns.map PyData.int), ?_, ?_, ?_, ?_, ?_, ?_⟩⟩
    · show (D.toPs (ns.map D.int)).map PyData.list = _
      rw [toPs_ints]; rfl
    · unfold PyData.showable; exact h1
    · unfold PyData.hasDict; exact h2
    · unfold PyData.depth; omega
    · unfold PyData.shown
      rw [shownAll_ints]
      unfold listText
      rw [strLen_append]
      have := from_le (ns.map fun i => (Str.ofString (toString i))) 0 "["
      have e1 : (("[" : String) : Str).length = 1 := rfl
      have e2 : (("]" : String) : Str).length = 1 := rfl
      omega
    · have e : (PyData.list (ns.map PyData.int)).shown = listText (ns.map fun i => (Str.ofString (toString i))) := by
        unfold PyData.shown
        rw [shownAll_ints]
      rw [e]; exact hk
  | false =>
    refine ⟨tupleText (ns.map fun i => (Str.ofString (toString i))), ok_app (ok_app (ok_of _) (ok_join _ ok)) (ok_of _), fun b k hk => ⟨.tuple (ns.map PyData.int), ?_, ?_, ?_, ?_, ?_, ?_⟩⟩
    · show (D.toPs (ns.map D.int)).map PyData.tuple = _
      rw [toPs_ints]; rfl
    · unfold PyData.showable; exact h1
    · unfold PyData.hasDict; exact h2
    · unfold PyData.depth; omega
    · unfold PyData.shown
      rw [shownAll_ints]
      unfold tupleText
      rw [strLen_append, strLen_append]
      have e1 : (("(" : String) : Str).length = 1 := rfl
      have e3 : (((if (ns.map fun i => (Str.ofString (toString i))).length == 1 then ",)" else ")" : String) : Str)).length ≤ 2 := by split <;> decide
      have j : (Str.join ", " (ns.map fun i => (Str.ofString (toString i)))).length ≤ piled (ns.map fun i => (Str.ofString (toString i))) := by
        by_cases z : ns.map (fun i => (Str.ofString (toString i))) = []
        · rw [z]; exact Nat.zero_le _
        · have := join_length_add _ z
          omega
      omega
    · have e : (PyData.tuple (ns.map PyData.int)).shown = tupleText (ns.map fun i => (Str.ofString (toString i))) := by
        unfold PyData.shown
        rw [shownAll_ints]
      rw [e]; exact hk
theorem shStr {s : Str} (h : PyData.strOk s = true) : SeqAt.shaped (.str s) = true := by simp [SeqAt.shaped, PyData.canLay0, PyData.depth, h]
end DL

set_option maxHeartbeats 4000000
/-! DP5: lists and tuples of numbers in plain laws. -/
namespace DL
open PySem PySem.Spec PyProof.Rows L2
def seqD (t : Bool) (ns : List Int) : D := if t = true then .lst (ns.map D.int) else .tup (ns.map D.int)
theorem seq_scal (t : Bool) (ns : List Int) : (seqD t ns).scal = false := by cases t <;> rfl
def gdI (xs : List Int) (i : Nat) : Int := (xs[i]?).getD 0
theorem gdI_at {xs : List Int} {i : Nat} (h : i < xs.length) : gdI xs i = xs[i] := by
  unfold gdI
  rw [List.getElem?_eq_getElem h]; rfl
theorem scal_ints : ∀ ns : List Int, (ns.map D.int).all D.scal = true
  | [] => rfl
  | n :: ns => by
    rw [List.map_cons, List.all_cons, scal_ints ns]; rfl
theorem fls_ints (b : Bool) (ns : List Int) : fls b (ns.map D.int) = true := by
  unfold fls
  rw [scal_ints, Bool.or_true]
theorem fl_int (b : Bool) (i : Int) : fl b (.int i) = true := by cases b <;> rfl
theorem lay_ints : ∀ ns : List Int, PyData.canLayAll0 (ns.map PyData.int) = true ∧ PyData.depthAll (ns.map PyData.int) = 0
  | [] => by simp [PyData.canLayAll0, PyData.depthAll]
  | n :: ns => by
    obtain ⟨a, b⟩ := lay_ints ns
    rw [List.map_cons]
    simp [PyData.canLayAll0, PyData.depthAll, PyData.canLay0, PyData.depth, a, b]
theorem sh_ints (ns : List Int) : SeqAt.shaped (.list (ns.map PyData.int)) = true ∧ SeqAt.shaped (.tuple (ns.map PyData.int)) = true := by
  obtain ⟨a, b⟩ := lay_ints ns
  constructor <;> simp [SeqAt.shaped, PyData.canLay0, PyData.depth, a, b]
theorem eqv_ints : ∀ xs ys : List Int, PyData.eqvAll (xs.map PyData.int) (ys.map PyData.int) = decide (xs = ys)
  | [], [] => by simp [PyData.eqvAll]
  | [], y :: ys => by simp [PyData.eqvAll]
  | x :: xs, [] => by simp [PyData.eqvAll]
  | x :: xs, y :: ys => by
    rw [List.map_cons, List.map_cons, PyData.eqvAll, eqv_int, eqv_ints xs ys]
    by_cases h : x = y <;> by_cases g : xs = ys <;> simp [h, g]
theorem eqv_lst (xs ys : List Int) : PyData.eqv (.list (xs.map PyData.int)) (.list (ys.map PyData.int)) = decide (xs = ys) := by
  rw [PyData.eqv]
  exact eqv_ints xs ys
theorem eqv_tup (xs ys : List Int) : PyData.eqv (.tuple (xs.map PyData.int)) (.tuple (ys.map PyData.int)) = decide (xs = ys) := by
  rw [PyData.eqv]
  exact eqv_ints xs ys
theorem toP_lst (xs : List Int) : (D.lst (xs.map D.int)).toP = some (.list (xs.map PyData.int)) := by
  show (D.toPs (xs.map D.int)).map PyData.list = _
  rw [toPs_ints]; rfl
theorem toP_tup (xs : List Int) : (D.tup (xs.map D.int)).toP = some (.tuple (xs.map PyData.int)) := by
  show (D.toPs (xs.map D.int)).map PyData.tuple = _
  rw [toPs_ints]; rfl
theorem neL {xs ys : List Int} {k : Bool → Prop} (h : k (!decide (xs = ys))) : cmpD .NotEq (.lst (xs.map D.int)) (.lst (ys.map D.int)) k :=
  ⟨_, _, toP_lst xs, toP_lst ys, (sh_ints xs).1, (sh_ints ys).1, by rw [eqv_lst]; exact h⟩
theorem eqL {xs ys : List Int} {k : Bool → Prop} (h : k (decide (xs = ys))) : cmpD .Eq (.lst (xs.map D.int)) (.lst (ys.map D.int)) k :=
  ⟨_, _, toP_lst xs, toP_lst ys, (sh_ints xs).1, (sh_ints ys).1, by rw [eqv_lst]; exact h⟩
theorem eqI {i j : Int} {k : Bool → Prop} (h : k (decide (i = j))) : cmpD .Eq (.int i) (.int j) k := ⟨_, _, rfl, rfl, shInt _, shInt _, by rw [eqv_int]; exact h⟩
theorem neI {i j : Int} {k : Bool → Prop} (h : k (!decide (i = j))) : cmpD .NotEq (.int i) (.int j) k := ⟨_, _, rfl, rfl, shInt _, shInt _, by rw [eqv_int]; exact h⟩
theorem neS {s : Str} {k : Bool → Prop} (hs : PyData.strOk s = true) (h : k false) : cmpD .NotEq (.str s) (.str s) k := ⟨_, _, rfl, rfl, shStr hs, shStr hs, by rw [eqv_str, decide_eq_true rfl]; exact h⟩
theorem cut_from (xs : List D) (a : Nat) : cutD xs (some (a : Int)) none = xs.drop a := by
  unfold cutD
  rw [HT.sIx_nat, HT.sIx_none]
  by_cases h : a ≤ xs.length
  · rw [Nat.min_eq_left h]
    exact List.take_of_length_le (by rw [List.length_drop]; omega)
  · rw [Nat.min_eq_right (by omega), List.drop_length, List.drop_eq_nil_of_le (by omega), List.take_nil]
theorem cut_to (xs : List D) (a : Nat) : cutD xs none (some (a : Int)) = xs.take a := by
  unfold cutD
  rw [HT.sIx_nat, HT.sIx_none, List.drop_zero, Nat.sub_zero]
  by_cases h : a ≤ xs.length
  · rw [Nat.min_eq_left h]
  · rw [Nat.min_eq_right (by omega), List.take_length, List.take_of_length_le (by omega)]
theorem at_ints {xs : List Int} {i : Nat} (h : i < xs.length) : atI (xs.map D.int) (i : Int) = some (.int (gdI xs i)) := by
  rw [atNat (by rw [List.length_map]; exact h), List.getElem?_map, List.getElem?_eq_getElem h, gdI_at h]; rfl
theorem len_seq {t : Bool} {ns : List Int} {b : Bool} {k : DB → Prop} (h : k (.int (ns.length : Nat), true)) : biD .len (seqD t ns, b) k := by
  cases t
  · show k (.int ((ns.map D.int).length : Nat), true)
    rw [List.length_map]; exact h
  · show k (.int ((ns.map D.int).length : Nat), true)
    rw [List.length_map]; exact h
theorem len_ints {ns : List Int} {b : Bool} {k : DB → Prop} (h : k (.int (ns.length : Nat), true)) : biD .len (.lst (ns.map D.int), b) k := by
  show k (.int ((ns.map D.int).length : Nat), true)
  rw [List.length_map]; exact h
/-- the list of a list's or a tuple's items -/
theorem of_seq {cf : Nat → List D → Nat → KE → Prop} {j : Nat} {t : Bool} {ns : List Int} {b : Bool} {f : DL.Fr} {n : Nat} {k : List D → Bool → Nat → Prop} (hf : f[j]? = some (.v (seqD t ns) b)) (h : k (ns.map D.int) true n) : evL cf (.of (.ex (.var j))) f n k := by
  unfold evL evO evE
  rw [hf]
  cases t
  · show k (ns.map D.int) (fls b (ns.map D.int)) n
    rw [fls_ints]; exact h
  · show k (ns.map D.int) (fls b (ns.map D.int)) n
    rw [fls_ints]; exact h
section
variable {cf : Nat → List D → Nat → KE → Prop}
theorem evSs_asgE {i : Nat} {e : XE} {ss : XSs} {K : DE} {f : DL.Fr} {n : Nat} : evSs cf (.cons (.asg i (.e e)) ss) K f n = evE cf e f n (fun r n1 => evSs cf ss K (f.set i (.v r.1 r.2)) n1) := rfl
theorem evSs_ife {c : XT} {a b ss : XSs} {K : DE} {f : DL.Fr} {n : Nat} : evSs cf (.cons (.ife c a b) ss) K f n = evT cf c f n (fun t n1 => if t = true then evSs cf a ⟨fun f n => evSs cf ss K f n, K.rt, K.ct⟩ f n1 else evSs cf b ⟨fun f n => evSs cf ss K f n, K.rt, K.ct⟩ f n1) := rfl
theorem evSs_ret {e : XE} {ss : XSs} {K : DE} {f : DL.Fr} {n : Nat} : evSs cf (.cons (.ret e) ss) K f n = evE cf e f n K.rt := rfl
theorem evE_call {g : Nat} {es : XEs} {f : DL.Fr} {n : Nat} {k : KE} : evE cf (.call g es) f n k = evEs cf es f n (fun xs _ n1 => cf g xs n1 k) := rfl
/-- for i, x in enumerate(xs) -/
theorem enum_inv {t u : Nat} {b : XSs} {K : DE} {xs : List D} {fb : Bool} (I : Nat → DL.Fr → Nat → Prop) {f : DL.Fr} {n : Nat} (h0 : I 0 f n)
    (hstep : ∀ i (hi : i < xs.length) f n (W : DL.Fr → Nat → Prop), I i f n → (∀ f' n', I (i + 1) f' n' → W f' n') → evSs cf b ⟨W, K.rt, W⟩ ((f.set t (.v (.int (i : Nat)) true)).set u (.v xs[i] (fl fb xs[i]))) n)
    (hend : ∀ f n, I xs.length f n → K.nx f n) : forGo (fun vs f n K => ∃ f', bindT f [t, u] vs = some f' ∧ evSs cf b K f' n) ((List.range xs.length).zipWith (fun i d => [((.int (i : Nat), true) : DB), (d, fl fb d)]) xs) K f n := by
  have hl : ((List.range xs.length).zipWith (fun (i : Nat) d => [((.int (i : Nat), true) : DB), (d, fl fb d)]) xs).length = xs.length := by simp
  refine forGo_inv I h0 (fun i hi f n W hI hW => ?_) (fun f n h => hend f n (by rw [hl] at h; exact h))
  have hi' : i < xs.length := by rw [hl] at hi; exact hi
  refine ⟨_, ?_, hstep i hi' f n W hI hW⟩
  rw [List.getElem_zipWith, List.getElem_range]
  rfl
/-- for x in xs, of a list of numbers -/
theorem over_ints {u : Nat} {b : XSs} {K : DE} {ns : List Int} {fb : Bool} (I : Nat → DL.Fr → Nat → Prop) {f : DL.Fr} {n : Nat} (h0 : I 0 f n)
    (hstep : ∀ i, i < ns.length → ∀ f n (W : DL.Fr → Nat → Prop), I i f n → (∀ f' n', I (i + 1) f' n' → W f' n') → evSs cf b ⟨W, K.rt, W⟩ (f.set u (.v (.int (gdI ns i)) true)) n)
    (hend : ∀ f n, I ns.length f n → K.nx f n) : forGo (fun vs f n K => ∃ f', bindT f [u] vs = some f' ∧ evSs cf b K f' n) ((ns.map D.int).map fun d => [(d, fl fb d)]) K f n := by
  refine over_inv I h0 (fun i hi f n W hI hW => ?_) (fun f n h => hend f n (by rw [List.length_map] at h; exact h))
  have hi' : i < ns.length := by rw [List.length_map] at hi; exact hi
  rw [List.getElem_map, fl_int, ← gdI_at hi']
  exact hstep i hi' f n W hI hW
theorem for_seq {u j : Nat} {b : XSs} {K : DE} {t b0 : Bool} {ns : List Int} (I : Nat → DL.Fr → Nat → Prop) {f : DL.Fr} {n : Nat} (hf : f[j]? = some (.v (seqD t ns) b0)) (h0 : I 0 f n)
    (hstep : ∀ i, i < ns.length → ∀ f n (W : DL.Fr → Nat → Prop), I i f n → (∀ f' n', I (i + 1) f' n' → W f' n') → evSs cf b ⟨W, K.rt, W⟩ (f.set u (.v (.int (gdI ns i)) true)) n)
    (hend : ∀ f n, I ns.length f n → K.nx f n) : evS cf (.for [u] (.over (.ex (.var j))) b) K f n := by
  unfold evS evI evO evE
  rw [hf]
  cases t
  · exact over_ints I h0 hstep hend
  · exact over_ints I h0 hstep hend
theorem for_rseq {u j : Nat} {b : XSs} {K : DE} {t b0 : Bool} {ns : List Int} (I : Nat → DL.Fr → Nat → Prop) {f : DL.Fr} {n : Nat} (hf : f[j]? = some (.v (seqD t ns) b0)) (h0 : I 0 f n)
    (hstep : ∀ i, i < ns.length → ∀ f n (W : DL.Fr → Nat → Prop), I i f n → (∀ f' n', I (i + 1) f' n' → W f' n') → evSs cf b ⟨W, K.rt, W⟩ (f.set u (.v (.int (gdI ns (ns.length - 1 - i))) true)) n)
    (hend : ∀ f n, I ns.length f n → K.nx f n) : evS cf (.for [u] (.over (.ex (.rvs (.ex (.var j))))) b) K f n := by
  have go : ∀ fb, forGo (fun vs f n K => ∃ f', bindT f [u] vs = some f' ∧ evSs cf b K f' n) ((ns.map D.int).reverse.map fun d => [(d, fl fb d)]) K f n := by
    intro fb
    rw [← List.map_reverse]
    refine over_ints I h0 (fun i hi f n W hI hW => ?_) (fun f n h => hend f n (by rw [List.length_reverse] at h; exact h))
    rw [List.length_reverse] at hi
    have e : gdI ns.reverse i = gdI ns (ns.length - 1 - i) := by
      unfold gdI
      rw [List.getElem?_reverse hi]
    rw [e]
    exact hstep i hi f n W hI hW
  unfold evS evI evO evE evO evE
  rw [hf]
  cases t
  · exact go _
  · exact go _
end
/-- a list comprehension that draws nothing -/
theorem compGo_mapA {α : Type} {turn : List DB → Nat → (Option DB → Nat → Prop) → Prop} {n : Nat} {K : List D → Bool → Nat → Prop} (it : α → List DB) (g : α → D) : ∀ (as : List α) (acc : List D), (∀ a ∈ as, ∀ k : Option DB → Nat → Prop, k (some (g a, true)) n → turn (it a) n k) → acc.length + as.length ≤ sizeLine →
    K (acc ++ as.map g) true n → compGo turn (as.map it) acc true n K
  | [], acc, _, _, hK => by
    unfold compGo
    simpa using hK
  | a :: as, acc, h, hl, hK => by
    rw [List.length_cons] at hl
    rw [List.map_cons]
    unfold compGo
    refine h a List.mem_cons_self _ ⟨by omega, ?_⟩
    refine compGo_mapA it g as _ (fun b hb => h b (List.mem_cons_of_mem _ hb)) (by rw [List.length_append]; simp; omega) ?_
    simpa using hK
theorem zip_items {b c : Bool} : ∀ xs ys : List Int, List.zipWith (fun d e => [((d, fl b d) : DB), (e, fl c e)]) (xs.map D.int) (ys.map D.int) = (List.zip xs ys).map fun p => [(.int p.1, true), (.int p.2, true)]
  | [], _ => rfl
  | x :: xs, [] => rfl
  | x :: xs, y :: ys => by
    rw [List.map_cons, List.map_cons, List.zipWith_cons_cons, zip_items xs ys, fl_int, fl_int]; rfl
/-- [e for a, b in zip(xs, ys)] -/
theorem comp_zip {turn : List DB → Nat → (Option DB → Nat → Prop) → Prop} {n : Nat} {K : List D → Bool → Nat → Prop} {b c : Bool} (g : Int → Int → Int) (xs ys : List Int) (h : ∀ x ∈ xs, ∀ y ∈ ys, ∀ k : Option DB → Nat → Prop, k (some (.int (g x y), true)) n → turn [(.int x, true), (.int y, true)] n k) (hl : xs.length ≤ sizeLine)
    (hK : K ((List.zipWith g xs ys).map D.int) true n) : compGo turn (List.zipWith (fun d e => [((d, fl b d) : DB), (e, fl c e)]) (xs.map D.int) (ys.map D.int)) [] true n K := by
  rw [zip_items]
  refine compGo_mapA _ (fun p => .int (g p.1 p.2)) _ _ (fun p hp k hk => h _ (List.of_mem_zip hp).1 _ (List.of_mem_zip hp).2 k hk) ?_ ?_
  · rw [List.length_zip]
    have := Nat.min_le_left xs.length ys.length
    simp; omega
  · have e : (List.zip xs ys).map (fun p => D.int (g p.1 p.2)) = (List.zipWith g xs ys).map D.int := by
      rw [List.zip, List.map_zipWith, List.map_zipWith]
    rw [e]
    exact hK
/-- [e for i in range(m)], draws nothing -/
theorem comp_rng {turn : List DB → Nat → (Option DB → Nat → Prop) → Prop} {n : Nat} {K : List D → Bool → Nat → Prop} (g : Nat → D) (m : Nat) (h : ∀ i, i < m → ∀ k : Option DB → Nat → Prop, k (some (g i, true)) n → turn [(.int (i : Nat), true)] n k) (hl : m ≤ sizeLine)
    (hK : K ((List.range m).map g) true n) : compGo turn ((List.range ((m : Nat) : Int).toNat).map fun i => [((.int (i : Nat), true) : DB)]) [] true n K := by
  rw [Int.toNat_natCast]
  exact compGo_mapA _ g _ _ (fun i hi k hk => h i (List.mem_range.mp hi) k hk) (by simp; exact hl) hK
theorem compGo_draws {turn : List DB → Nat → (Option DB → Nat → Prop) → Prop} {K : List D → Bool → Nat → Prop} {m : Int} : ∀ (items : List (List DB)) (acc : List D) (n : Nat), items.length ≤ n →
    (∀ it ∈ items, ∀ (n : Nat) (k : Option DB → Nat → Prop), 1 ≤ n → (∀ d : Int, 0 ≤ d → d < m → k (some (.int d, true)) (n - 1)) → turn it n k) → acc.length + items.length ≤ sizeLine →
    (∀ ns : List Int, ns.length = items.length → (∀ i ∈ ns, 0 ≤ i ∧ i < m) → K (acc ++ ns.map D.int) true (n - items.length)) → compGo turn items acc true n K
  | [], acc, n, _, _, _, hK => by
    unfold compGo
    have := hK [] rfl (fun i hi => by cases hi)
    simpa using this
  | it :: items, acc, n, hn, h, hl, hK => by
    rw [List.length_cons] at hn hl
    unfold compGo
    refine h it List.mem_cons_self n _ (by omega) fun d d0 d1 => ⟨by omega, ?_⟩
    refine compGo_draws items _ _ (by omega) (fun it' hi => h it' (List.mem_cons_of_mem _ hi)) (by rw [List.length_append]; simp; omega) fun ns h1 h2 => ?_
    have := hK (d :: ns) (by rw [List.length_cons, h1]; rfl) (fun i hi => by
      rcases List.mem_cons.mp hi with z | z
      · rw [z]; exact ⟨d0, d1⟩
      · exact h2 i z)
    rw [List.length_cons, show n - (items.length + 1) = n - 1 - items.length by omega] at this
    simpa using this
end DL

set_option maxHeartbeats 1000000
/-! DP6: repr of a list of lists or tuples of numbers. -/
namespace DL
open PySem PySem.Spec PyProof.Rows L2
def seqP (t : Bool) (ns : List Int) : PyData := if t = true then .list (ns.map .int) else .tuple (ns.map .int)
theorem seq_toP (t : Bool) (ns : List Int) : (seqD t ns).toP = some (seqP t ns) := by
  cases t
  · exact toP_tup ns
  · exact toP_lst ns
theorem seq_shown (t : Bool) (ns : List Int) (h : ∀ i ∈ ns, 0 ≤ i ∧ i < 10 ^ 9) (hl : ns.length ≤ 1000) :
    (seqP t ns).showable = true ∧ (seqP t ns).hasDict = false ∧ (seqP t ns).depth ≤ 2 ∧ PyData.strOk (seqP t ns).shown = true ∧ (seqP t ns).shown.length ≤ 20000 := by
  obtain ⟨h1, h2, h3⟩ := showAll_ints ns h
  have ok : ∀ x ∈ ns.map (fun i => (Str.ofString (toString i))), PyData.strOk x = true := fun x hx => by
    obtain ⟨i, _, rfl⟩ := List.mem_map.mp hx
    exact ok_of _
  have len : ∀ x ∈ ns.map (fun i => (Str.ofString (toString i))), x.length ≤ 9 := fun x hx => by
    obtain ⟨i, hi, rfl⟩ := List.mem_map.mp hx
    exact toString_length_le (h i hi).1 (by decide) (h i hi).2
  have pl := piled_le _ 9 len
  rw [List.length_map] at pl
  cases t with
  | true =>
    have e : (PyData.list (ns.map PyData.int)).shown = listText (ns.map fun i => (Str.ofString (toString i))) := by
      unfold PyData.shown
      rw [shownAll_ints]
    show (PyData.list (ns.map PyData.int)).showable = true ∧ (PyData.list (ns.map PyData.int)).hasDict = false ∧ (PyData.list (ns.map PyData.int)).depth ≤ 2 ∧ PyData.strOk (PyData.list (ns.map PyData.int)).shown = true ∧ (PyData.list (ns.map PyData.int)).shown.length ≤ 20000
    refine ⟨by unfold PyData.showable; exact h1, by unfold PyData.hasDict; exact h2, by unfold PyData.depth; omega, ?_, ?_⟩
    · rw [e]; exact ok_app (ok_from _ _ _ (ok_of _) ok) (ok_of _)
    · rw [e]
      unfold listText
      rw [strLen_append]
      have := from_le (ns.map fun i => (Str.ofString (toString i))) 0 "["
      have e1 : (("[" : String) : Str).length = 1 := rfl
      have e2 : (("]" : String) : Str).length = 1 := rfl
      omega
  | false =>
    have e : (PyData.tuple (ns.map PyData.int)).shown = tupleText (ns.map fun i => (Str.ofString (toString i))) := by
      unfold PyData.shown
      rw [shownAll_ints]
    show (PyData.tuple (ns.map PyData.int)).showable = true ∧ (PyData.tuple (ns.map PyData.int)).hasDict = false ∧ (PyData.tuple (ns.map PyData.int)).depth ≤ 2 ∧ PyData.strOk (PyData.tuple (ns.map PyData.int)).shown = true ∧ (PyData.tuple (ns.map PyData.int)).shown.length ≤ 20000
    refine ⟨by unfold PyData.showable; exact h1, by unfold PyData.hasDict; exact h2, by unfold PyData.depth; omega, ?_, ?_⟩
    · rw [e]; exact ok_app (ok_app (ok_of _) (ok_join _ ok)) (ok_of _)
    · rw [e]
      unfold tupleText
      rw [strLen_append, strLen_append]
      have e1 : (("(" : String) : Str).length = 1 := rfl
      have e3 : (((if (ns.map fun i => (Str.ofString (toString i))).length == 1 then ",)" else ")" : String) : Str)).length ≤ 2 := by split <;> decide
      have j : (Str.join ", " (ns.map fun i => (Str.ofString (toString i)))).length ≤ piled (ns.map fun i => (Str.ofString (toString i))) := by
        by_cases z : ns.map (fun i => (Str.ofString (toString i))) = []
        · rw [z]; exact Nat.zero_le _
        · have := join_length_add _ z
          omega
      omega
theorem seqs_all : ∀ ss : List (Bool × List Int), (∀ s ∈ ss, (∀ i ∈ s.2, 0 ≤ i ∧ i < 10 ^ 9) ∧ s.2.length ≤ 1000) → D.toPs (ss.map fun s => seqD s.1 s.2) = some (ss.map fun s => seqP s.1 s.2) ∧ PyData.showableAll (ss.map fun s => seqP s.1 s.2) = true ∧ PyData.hasDictAll (ss.map fun s => seqP s.1 s.2) = false ∧ PyData.depthAll (ss.map fun s => seqP s.1 s.2) ≤ 2 ∧
    PyData.shownAll (ss.map fun s => seqP s.1 s.2) = ss.map (fun s => (seqP s.1 s.2).shown) ∧ (∀ x ∈ ss.map (fun s => (seqP s.1 s.2).shown), PyData.strOk x = true ∧ x.length ≤ 20000)
  | [], _ => by simp [D.toPs, PyData.showableAll, PyData.hasDictAll, PyData.depthAll, PyData.shownAll]
  | s :: ss, h => by
    obtain ⟨a0, a, b, c, d, e⟩ := seqs_all ss fun i hi => h i (List.mem_cons_of_mem _ hi)
    obtain ⟨h0, h1⟩ := h s List.mem_cons_self
    obtain ⟨s1, s2, s3, s4, s5⟩ := seq_shown s.1 s.2 h0 h1
    refine ⟨?_, ?_, ?_, ?_, ?_, ?_⟩
    · rw [List.map_cons]; unfold D.toPs; rw [seq_toP, a0]; rfl
    · rw [List.map_cons]; unfold PyData.showableAll; rw [s1, a]; rfl
    · rw [List.map_cons]; unfold PyData.hasDictAll; rw [s2, b]; rfl
    · rw [List.map_cons]; unfold PyData.depthAll; omega
    · rw [List.map_cons]; unfold PyData.shownAll; rw [d]; rfl
    · intro x hx
      rw [List.map_cons] at hx
      rcases List.mem_cons.mp hx with z | z
      · rw [z]; exact ⟨s4, s5⟩
      · exact e x z
/-- one text stands for a list of them -/
theorem repr_seqs (ss : List (Bool × List Int)) (h : ∀ s ∈ ss, (∀ i ∈ s.2, 0 ≤ i ∧ i < 10 ^ 9) ∧ s.2.length ≤ 1000) (hl : ss.length ≤ 100) :
    ∃ s : Str, PyData.strOk s = true ∧ ∀ (b : Bool) (k : DB → Prop), k (.str s, true) → biD .repr (.lst (ss.map fun s => seqD s.1 s.2), b) k := by
  obtain ⟨a0, a, b, c, d, e⟩ := seqs_all ss h
  have es : (PyData.list (ss.map fun s => seqP s.1 s.2)).shown = listText (ss.map fun s => (seqP s.1 s.2).shown) := by
    conv => lhs; unfold PyData.shown
    rw [d]
  have big : 3000000 ≤ sizeLine := by rw [sizeLine_eq]; decide
  refine ⟨listText (ss.map fun s => (seqP s.1 s.2).shown), ok_app (ok_from _ _ _ (ok_of _) fun t ht => (e t ht).1) (ok_of _), fun b' k hk => ⟨.list (ss.map fun s => seqP s.1 s.2), ?_, ?_, ?_, ?_, ?_, ?_⟩⟩
  · show (D.toPs _).map PyData.list = _
    rw [a0]; rfl
  · unfold PyData.showable; exact a
  · unfold PyData.hasDict; exact b
  · unfold PyData.depth; omega
  · rw [es]
    unfold listText
    rw [strLen_append]
    have h1 := from_le (ss.map fun s => (seqP s.1 s.2).shown) 0 "["
    have h2 := piled_le _ 20000 fun t ht => (e t ht).2
    rw [List.length_map] at h2
    have e1 : (("[" : String) : Str).length = 1 := rfl
    have e2 : (("]" : String) : Str).length = 1 := rfl
    omega
  · rw [es]; exact hk
end DL

set_option maxHeartbeats 1000000
/-! DP7: data of all kinds: their texts, copies, the same in other forms. -/
namespace DL
open PySem PySem.Spec PyProof.Rows L2
mutual
def D.wf : D → Bool
  | .non => true | .bl _ => true
  | .int i => decide (0 ≤ i ∧ i < 10 ^ 9) || decide (-100 ≤ i ∧ i < 0)
  | .str x => PyData.strOk x && PyData.strOk (reprText x) && decide ((reprText x).length ≤ 100)
  | .lst xs => decide (xs.length ≤ 1000) && D.wfs xs
  | .tup xs => decide (xs.length ≤ 1000) && D.wfs xs
  | _ => false
def D.wfs : List D → Bool
  | [] => true
  | d :: ds => d.wf && D.wfs ds
end
mutual
def D.wt : D → Nat
  | .lst xs => D.wts xs + 10
  | .tup xs => D.wts xs + 10
  | _ => 110
def D.wts : List D → Nat
  | [] => 0
  | d :: ds => (d.wt + 2) + D.wts ds
end
mutual
def D.cnt : D → Nat
  | .lst xs => D.cnts xs + 1
  | .tup xs => D.cnts xs + 1
  | _ => 0
def D.cnts : List D → Nat
  | [] => 0
  | d :: ds => d.cnt + D.cnts ds
end
theorem wfs_mem : ∀ {xs : List D} {x : D}, D.wfs xs = true → x ∈ xs → x.wf = true
  | y :: ys, x, h, m => by
    unfold D.wfs at h
    obtain ⟨h1, h2⟩ := Bool.and_eq_true_iff.mp h
    rcases List.mem_cons.mp m with z | z
    · rw [z]; exact h1
    · exact wfs_mem h2 z
theorem int_text {i : Int} (h : (decide (0 ≤ i ∧ i < 10 ^ 9) || decide (-100 ≤ i ∧ i < 0)) = true) : i.natAbs.log2 < 1920 ∧ (Str.ofString (toString i)).length ≤ 10 := by
  rcases Bool.or_eq_true_iff.mp h with z | z
  · have z := of_decide_eq_true z
    refine ⟨?_, Nat.le_trans (toString_length_le z.1 (k := 9) (by decide) z.2) (by decide)⟩
    have := logL (x := i) (k := 60) (by omega)
    omega
  · have z := of_decide_eq_true z
    have all : ((List.range 100).all fun k : Nat => decide ((Str.ofString (toString (-((k : Int) + 1)))).length ≤ 10)) = true := by decide +kernel
    have h1 := List.all_eq_true.mp all ((-i - 1).toNat) (List.mem_range.mpr (by omega))
    rw [decide_eq_true_eq, show -((((-i - 1).toNat : Nat) : Int) + 1) = i by omega] at h1
    refine ⟨?_, h1⟩
    have := logL (x := i) (k := 60) (by omega)
    omega
mutual
theorem wf_show : ∀ d : D, d.wf = true → ∃ p, d.toP = some p ∧ p.showable = true ∧ p.hasDict = false ∧ p.depth ≤ d.dep ∧ p.canLay0 = true ∧ PyData.strOk p.shown = true ∧ p.shown.length ≤ d.wt
  | .non, _ => ⟨.none, rfl, rfl, rfl, Nat.zero_le _, rfl, ok_of "None", by show (Str.ofString "None").length ≤ 110; decide +kernel⟩
  | .bl b, _ => ⟨.bool b, rfl, rfl, rfl, Nat.zero_le _, rfl, by cases b <;> exact ok_of _, by cases b <;> decide +kernel⟩
  | .int i, h => by
    unfold D.wf at h
    obtain ⟨h1, h2⟩ := int_text h
    refine ⟨.int i, rfl, ?_, rfl, Nat.zero_le _, rfl, ok_of _, ?_⟩
    · unfold PyData.showable; exact decide_eq_true h1
    · show (Str.ofString (toString i)).length ≤ 110
      omega
  | .str x, h => by
    unfold D.wf at h
    obtain ⟨h, h3⟩ := Bool.and_eq_true_iff.mp h
    obtain ⟨h1, h2⟩ := Bool.and_eq_true_iff.mp h
    have h3 := of_decide_eq_true h3
    refine ⟨.str x, rfl, rfl, rfl, Nat.zero_le _, ?_, h2, ?_⟩
    · unfold PyData.canLay0; exact h1
    · show (reprText x).length ≤ 110
      omega
  | .lst xs, h => by
    unfold D.wf at h
    obtain ⟨h1, h2⟩ := Bool.and_eq_true_iff.mp h
    obtain ⟨ps, a1, a2, a3, a4, a5, a6, a7⟩ := wfs_show xs h2
    have e : (PyData.list ps).shown = listText (PyData.shownAll ps) := by conv => lhs; unfold PyData.shown
    refine ⟨.list ps, by show (D.toPs xs).map PyData.list = _; rw [a1]; rfl, by unfold PyData.showable; exact a2, by unfold PyData.hasDict; exact a3, by unfold PyData.depth D.dep; omega, by unfold PyData.canLay0; exact a5, ?_, ?_⟩
    · rw [e]; exact ok_app (ok_from _ _ _ (ok_of _) a6) (ok_of _)
    · rw [e]
      unfold listText D.wt
      rw [strLen_append]
      have := from_le (PyData.shownAll ps) 0 "["
      have e1 : (("[" : String) : Str).length = 1 := rfl
      have e2 : (("]" : String) : Str).length = 1 := rfl
      omega
  | .tup xs, h => by
    unfold D.wf at h
    obtain ⟨h1, h2⟩ := Bool.and_eq_true_iff.mp h
    obtain ⟨ps, a1, a2, a3, a4, a5, a6, a7⟩ := wfs_show xs h2
    have e : (PyData.tuple ps).shown = tupleText (PyData.shownAll ps) := by conv => lhs; unfold PyData.shown
    refine ⟨.tuple ps, by show (D.toPs xs).map PyData.tuple = _; rw [a1]; rfl, by unfold PyData.showable; exact a2, by unfold PyData.hasDict; exact a3, by unfold PyData.depth D.dep; omega, by unfold PyData.canLay0; exact a5, ?_, ?_⟩
    · rw [e]; exact ok_app (ok_app (ok_of _) (ok_join _ a6)) (ok_of _)
    · rw [e]
      unfold tupleText D.wt
      rw [strLen_append, strLen_append]
      have e1 : (("(" : String) : Str).length = 1 := rfl
      have e3 : (((if (PyData.shownAll ps).length == 1 then ",)" else ")" : String) : Str)).length ≤ 2 := by split <;> decide
      have j : (Str.join ", " (PyData.shownAll ps)).length ≤ piled (PyData.shownAll ps) := by
        by_cases z : PyData.shownAll ps = []
        · rw [z]; exact Nat.zero_le _
        · have := join_length_add _ z
          omega
      omega
  | .strm, h => absurd h (by unfold D.wf; exact Bool.false_ne_true)
  | .dic _ _, h => absurd h (by unfold D.wf; exact Bool.false_ne_true)
  | .dit _ _, h => absurd h (by unfold D.wf; exact Bool.false_ne_true)
  | .ins _ _, h => absurd h (by unfold D.wf; exact Bool.false_ne_true)
theorem wfs_show : ∀ ds : List D, D.wfs ds = true → ∃ ps, D.toPs ds = some ps ∧ PyData.showableAll ps = true ∧ PyData.hasDictAll ps = false ∧ PyData.depthAll ps ≤ D.deps ds ∧ PyData.canLayAll0 ps = true ∧ (∀ t ∈ PyData.shownAll ps, PyData.strOk t = true) ∧ piled (PyData.shownAll ps) ≤ D.wts ds
  | [], _ => ⟨[], rfl, rfl, rfl, Nat.zero_le _, rfl, fun t ht => (by unfold PyData.shownAll at ht; cases ht), by simp [PyData.shownAll, piled, D.wts]⟩
  | d :: ds, h => by
    unfold D.wfs at h
    obtain ⟨h1, h2⟩ := Bool.and_eq_true_iff.mp h
    obtain ⟨p, b1, b2, b3, b4, b5, b6, b7⟩ := wf_show d h1
    obtain ⟨ps, a1, a2, a3, a4, a5, a6, a7⟩ := wfs_show ds h2
    refine ⟨p :: ps, ?_, ?_, ?_, ?_, ?_, ?_, ?_⟩
    · unfold D.toPs; rw [b1, a1]
    · unfold PyData.showableAll; rw [b2, a2]; rfl
    · unfold PyData.hasDictAll; rw [b3, a3]; rfl
    · unfold PyData.depthAll D.deps; omega
    · unfold PyData.canLayAll0; rw [b5, a5]; rfl
    · intro t ht
      unfold PyData.shownAll at ht
      rcases List.mem_cons.mp ht with z | z
      · rw [z]; exact b6
      · exact a6 t z
    · unfold PyData.shownAll D.wts
      rw [piled_cons]
      omega
end
def D.isEmp : D → Bool
  | .dic [] [] => true
  | _ => false
/-- data that the laws hand about -/
def D.gd (d : D) : Bool := d.isEmp || d.wf
/-- one text stands for it -/
theorem repr_gd (d : D) (h : d.gd = true) (hd : d.dep ≤ 60) (hw : d.wt ≤ 10000000) : ∃ s : Str, PyData.strOk s = true ∧ ∀ (b : Bool) (k : DB → Prop), k (.str s, true) → biD .repr (d, b) k := by
  have big : 10000000 ≤ sizeLine := by rw [sizeLine_eq]; decide
  rcases Bool.or_eq_true_iff.mp h with z | z
  · unfold D.isEmp at z
    split at z
    · exact ⟨"{}", ok_of _, fun b k hk => ⟨rfl, hk⟩⟩
    · cases z
  · obtain ⟨p, a1, a2, a3, a4, a5, a6, a7⟩ := wf_show d z
    refine ⟨p.shown, a6, fun b k hk => ?_⟩
    cases d with
    | non => cases a1; exact hk
    | bl c => cases a1; cases c <;> exact hk
    | int i => cases a1; exact ⟨by unfold PyData.showable at a2; exact of_decide_eq_true a2, hk⟩
    | str x => cases a1; exact ⟨by have : (reprText x).length ≤ 110 := a7; omega, hk⟩
    | lst xs => exact ⟨p, a1, a2, a3, by omega, by omega, hk⟩
    | tup xs => exact ⟨p, a1, a2, a3, by omega, by omega, hk⟩
    | _ => exact absurd z (by unfold D.wf; exact Bool.false_ne_true)
/-! ### the same with lists for tuples, or tuples for lists -/
mutual
inductive Lo : D → D → Prop
  | non : Lo .non .non
  | bl (b : Bool) : Lo (.bl b) (.bl b)
  | int (i : Int) : Lo (.int i) (.int i)
  | str (x : Str) : Lo (.str x) (.str x)
  | emp : Lo (.dic [] []) (.dic [] [])
  | ll {xs ys : List D} : LoL xs ys → Lo (.lst xs) (.lst ys)
  | lt {xs ys : List D} : LoL xs ys → Lo (.lst xs) (.tup ys)
  | tl {xs ys : List D} : LoL xs ys → Lo (.tup xs) (.lst ys)
  | tt {xs ys : List D} : LoL xs ys → Lo (.tup xs) (.tup ys)
inductive LoL : List D → List D → Prop
  | nil : LoL [] []
  | cons {x y : D} {xs ys : List D} : Lo x y → LoL xs ys → LoL (x :: xs) (y :: ys)
end
theorem LoL.len : ∀ {xs ys : List D}, LoL xs ys → xs.length = ys.length
  | _, _, .nil => rfl
  | _, _, .cons _ h => by rw [List.length_cons, List.length_cons, h.len]
mutual
theorem Lo.wf : ∀ {d e : D}, Lo d e → d.wf = true → e.wf = true ∧ e.dep = d.dep ∧ e.wt = d.wt
  | _, _, .non, h => ⟨h, rfl, rfl⟩
  | _, _, .bl _, h => ⟨h, rfl, rfl⟩
  | _, _, .int _, h => ⟨h, rfl, rfl⟩
  | _, _, .str _, h => ⟨h, rfl, rfl⟩
  | _, _, .emp, h => absurd h (by unfold D.wf; exact Bool.false_ne_true)
  | _, _, .ll r, h => by
    unfold D.wf at h
    obtain ⟨h1, h2⟩ := Bool.and_eq_true_iff.mp h
    obtain ⟨a, b, c⟩ := LoL.wf r h2
    unfold D.wf D.dep D.wt
    rw [← r.len, h1, a, b, c]; exact ⟨rfl, rfl, rfl⟩
  | _, _, .lt r, h => by
    unfold D.wf at h
    obtain ⟨h1, h2⟩ := Bool.and_eq_true_iff.mp h
    obtain ⟨a, b, c⟩ := LoL.wf r h2
    unfold D.wf D.dep D.wt
    rw [← r.len, h1, a, b, c]; exact ⟨rfl, rfl, rfl⟩
  | _, _, .tl r, h => by
    unfold D.wf at h
    obtain ⟨h1, h2⟩ := Bool.and_eq_true_iff.mp h
    obtain ⟨a, b, c⟩ := LoL.wf r h2
    unfold D.wf D.dep D.wt
    rw [← r.len, h1, a, b, c]; exact ⟨rfl, rfl, rfl⟩
  | _, _, .tt r, h => by
    unfold D.wf at h
    obtain ⟨h1, h2⟩ := Bool.and_eq_true_iff.mp h
    obtain ⟨a, b, c⟩ := LoL.wf r h2
    unfold D.wf D.dep D.wt
    rw [← r.len, h1, a, b, c]; exact ⟨rfl, rfl, rfl⟩
theorem LoL.wf : ∀ {ds es : List D}, LoL ds es → D.wfs ds = true → D.wfs es = true ∧ D.deps es = D.deps ds ∧ D.wts es = D.wts ds
  | _, _, .nil, _ => ⟨rfl, rfl, rfl⟩
  | _, _, .cons r rs, h => by
    unfold D.wfs at h
    obtain ⟨h1, h2⟩ := Bool.and_eq_true_iff.mp h
    obtain ⟨a, b, c⟩ := Lo.wf r h1
    obtain ⟨a2, b2, c2⟩ := LoL.wf rs h2
    unfold D.wfs D.deps D.wts
    rw [a, b, c, a2, b2, c2]; exact ⟨rfl, rfl, rfl⟩
end
theorem Lo.gd {d e : D} (r : Lo d e) (h : d.gd = true) : e.gd = true ∧ e.dep = d.dep ∧ e.wt = d.wt := by
  rcases Bool.or_eq_true_iff.mp h with z | z
  · unfold D.isEmp at z
    split at z
    · cases r; exact ⟨rfl, rfl, rfl⟩
    · cases z
  · obtain ⟨a, b, c⟩ := Lo.wf r z
    exact ⟨by unfold D.gd; rw [a, Bool.or_true], b, c⟩
/-! ### _law_copied, _law_loose -/
def fCopied (g : Nat) : FD := ⟨1, 4, (.cons (.ife (.tv (.isi (.var 0) [.t "list", .t "tuple"] false))
  (.cons (.asg 1 (.l (.comp (.call g (.cons (.var 2) .nil)) [2] [2] (.over (.ex (.var 0))) .nil)))
  (.cons (.frz 1 (.ret (.ife (.tv (.isi (.var 0) [.t "list"] true)) (.var 1) (.bi .tuple (.ex (.var 1))))))
  .nil))
  .nil)
  (.cons (.ife (.tv (.isi (.var 0) [.t "dict"] true))
  (.cons (.ret (.dctV (.comp (.tup (.cons (.var 3) (.cons (.call g (.cons (.idx (.ex (.var 0)) (.var 3)) .nil)) .nil))) [3] [3] (.over (.ex (.var 0))) .nil)))
  .nil)
  .nil)
  (.cons (.ret (.var 0))
  .nil)))⟩
def fLooseT (g : Nat) : FD := ⟨2, 4, (.cons (.ife (.tv (.isi (.var 1) [.t "list", .t "tuple"] false))
  (.cons (.asg 2 (.l (.comp (.call g (.cons (.var 0) (.cons (.var 3) .nil))) [3] [3] (.over (.ex (.var 1))) .nil)))
  (.cons (.frz 2 (.ret (.ife (.tc .Eq (.ex (.draw (.var 0) (.int 2))) (.ex (.int 0))) (.var 2) (.bi .tuple (.ex (.var 2))))))
  .nil))
  .nil)
  (.cons (.ret (.var 1))
  .nil))⟩
section
variable {tb : List FD} {g : Nat}
theorem copied_ok (hg : tb[g]? = some (fCopied g)) : ∀ (m : Nat) (d : D), d.gd = true → d.dep < m → ∀ (n : Nat) (k : KE), k (d, true) n → evF tb m g [d] n k
  | 0, d, _, hd, _, _, _ => absurd hd (Nat.not_lt_zero _)
  | m + 1, d, hp, hd, n, k, hk => by
    have ih := copied_ok hg m
    have seq : ∀ (xs : List D) (b : Bool) (kk : List D → Bool → Nat → Prop), D.wfs xs = true → xs.length ≤ 1000 → D.deps xs < m → kk xs true n → ∀ f : DL.Fr, 4 ≤ f.length → compGo (fun vs n k => ∃ f', bindT (wipeF f [2]) [2] vs = some f' ∧ evTall (evF tb m) .nil f' n fun t n1 => if t = true then evE (evF tb m) (.call g (.cons (.var 2) .nil)) f' n1 fun r n2 => k (some r) n2 else k none n1) (xs.map fun d => [((d, fl b d) : DB)]) [] true n kk := by
      intro xs b kk hw hl hdp hkk f hf
      refine compGo_mapA _ id xs [] (fun x hx k hk => ?_) (by rw [sizeLine_eq]; simp; omega) (by simpa using hkk)
      refine ⟨_, rfl, ?_⟩
      have hx2 : ((wipeF f [2]).set 2 (.v x (fl b x)))[2]? = some (.v x (fl b x)) := by
        rw [List.getElem?_set_self]
        simp [wipeF]; omega
      show evE (evF tb m) (.call g (.cons (.var 2) .nil)) ((wipeF f [2]).set 2 (.v x (fl b x))) n _
      unfold evE evEs evE
      rw [hx2]
      have hdx := deps_mem hx
      exact ih x (by unfold D.gd; rw [wfs_mem hw hx, Bool.or_true]) (by omega) n _ hk
    rw [evF_at (F := fCopied g) hg]
    refine ⟨rfl, ?_⟩
    cases d with
    | lst xs =>
      have hw : D.wf (.lst xs) = true := hp
      unfold D.wf at hw
      obtain ⟨h1, h2⟩ := Bool.and_eq_true_iff.mp hw
      show evSs _ _ _ [.v (.lst xs) false, .no, .no, .no] _
      refine ⟨true, ?_, true, rfl, ?_⟩
      · simp [isTs, isT, D.ty, kit_NoneType_int, kit_NoneType_bool, kit_NoneType_str, kit_NoneType_list, kit_NoneType_tuple, kit_NoneType_dict, kit_bool_int, kit_bool_bool, kit_bool_str, kit_bool_list, kit_bool_tuple, kit_bool_dict, kit_int_int, kit_int_bool, kit_int_str, kit_int_list, kit_int_tuple, kit_int_dict, kit_str_int, kit_str_bool, kit_str_str, kit_str_list, kit_str_tuple, kit_str_dict, kit_list_int, kit_list_bool, kit_list_str, kit_list_list, kit_list_tuple, kit_list_dict, kit_tuple_int, kit_tuple_bool, kit_tuple_str, kit_tuple_list, kit_tuple_tuple, kit_tuple_dict, kit_dict_int, kit_dict_bool, kit_dict_str, kit_dict_list, kit_dict_tuple, kit_dict_dict]
      refine seq xs false _ h2 (of_decide_eq_true h1) (by unfold D.dep at hd; omega) ?_ _ (by simp)
      refine ⟨_, rfl, true, ?_, true, rfl, hk⟩
      simp [isTs, isT, D.ty, kit_NoneType_int, kit_NoneType_bool, kit_NoneType_str, kit_NoneType_list, kit_NoneType_tuple, kit_NoneType_dict, kit_bool_int, kit_bool_bool, kit_bool_str, kit_bool_list, kit_bool_tuple, kit_bool_dict, kit_int_int, kit_int_bool, kit_int_str, kit_int_list, kit_int_tuple, kit_int_dict, kit_str_int, kit_str_bool, kit_str_str, kit_str_list, kit_str_tuple, kit_str_dict, kit_list_int, kit_list_bool, kit_list_str, kit_list_list, kit_list_tuple, kit_list_dict, kit_tuple_int, kit_tuple_bool, kit_tuple_str, kit_tuple_list, kit_tuple_tuple, kit_tuple_dict, kit_dict_int, kit_dict_bool, kit_dict_str, kit_dict_list, kit_dict_tuple, kit_dict_dict]
    | tup xs =>
      have hw : D.wf (.tup xs) = true := hp
      unfold D.wf at hw
      obtain ⟨h1, h2⟩ := Bool.and_eq_true_iff.mp hw
      show evSs _ _ _ [.v (.tup xs) false, .no, .no, .no] _
      refine ⟨true, ?_, true, rfl, ?_⟩
      · simp [isTs, isT, D.ty, kit_NoneType_int, kit_NoneType_bool, kit_NoneType_str, kit_NoneType_list, kit_NoneType_tuple, kit_NoneType_dict, kit_bool_int, kit_bool_bool, kit_bool_str, kit_bool_list, kit_bool_tuple, kit_bool_dict, kit_int_int, kit_int_bool, kit_int_str, kit_int_list, kit_int_tuple, kit_int_dict, kit_str_int, kit_str_bool, kit_str_str, kit_str_list, kit_str_tuple, kit_str_dict, kit_list_int, kit_list_bool, kit_list_str, kit_list_list, kit_list_tuple, kit_list_dict, kit_tuple_int, kit_tuple_bool, kit_tuple_str, kit_tuple_list, kit_tuple_tuple, kit_tuple_dict, kit_dict_int, kit_dict_bool, kit_dict_str, kit_dict_list, kit_dict_tuple, kit_dict_dict]
      refine seq xs false _ h2 (of_decide_eq_true h1) (by unfold D.dep at hd; omega) ?_ _ (by simp)
      refine ⟨_, rfl, false, ?_, false, rfl, ?_⟩
      · simp [isTs, isT, D.ty, kit_NoneType_int, kit_NoneType_bool, kit_NoneType_str, kit_NoneType_list, kit_NoneType_tuple, kit_NoneType_dict, kit_bool_int, kit_bool_bool, kit_bool_str, kit_bool_list, kit_bool_tuple, kit_bool_dict, kit_int_int, kit_int_bool, kit_int_str, kit_int_list, kit_int_tuple, kit_int_dict, kit_str_int, kit_str_bool, kit_str_str, kit_str_list, kit_str_tuple, kit_str_dict, kit_list_int, kit_list_bool, kit_list_str, kit_list_list, kit_list_tuple, kit_list_dict, kit_tuple_int, kit_tuple_bool, kit_tuple_str, kit_tuple_list, kit_tuple_tuple, kit_tuple_dict, kit_dict_int, kit_dict_bool, kit_dict_str, kit_dict_list, kit_dict_tuple, kit_dict_dict]
      exact hk
    | non => refine ⟨false, by simp [isTs, isT, D.ty, kit_NoneType_int, kit_NoneType_bool, kit_NoneType_str, kit_NoneType_list, kit_NoneType_tuple, kit_NoneType_dict, kit_bool_int, kit_bool_bool, kit_bool_str, kit_bool_list, kit_bool_tuple, kit_bool_dict, kit_int_int, kit_int_bool, kit_int_str, kit_int_list, kit_int_tuple, kit_int_dict, kit_str_int, kit_str_bool, kit_str_str, kit_str_list, kit_str_tuple, kit_str_dict, kit_list_int, kit_list_bool, kit_list_str, kit_list_list, kit_list_tuple, kit_list_dict, kit_tuple_int, kit_tuple_bool, kit_tuple_str, kit_tuple_list, kit_tuple_tuple, kit_tuple_dict, kit_dict_int, kit_dict_bool, kit_dict_str, kit_dict_list, kit_dict_tuple, kit_dict_dict], false, rfl, false, by simp [isTs, isT, D.ty, kit_NoneType_int, kit_NoneType_bool, kit_NoneType_str, kit_NoneType_list, kit_NoneType_tuple, kit_NoneType_dict, kit_bool_int, kit_bool_bool, kit_bool_str, kit_bool_list, kit_bool_tuple, kit_bool_dict, kit_int_int, kit_int_bool, kit_int_str, kit_int_list, kit_int_tuple, kit_int_dict, kit_str_int, kit_str_bool, kit_str_str, kit_str_list, kit_str_tuple, kit_str_dict, kit_list_int, kit_list_bool, kit_list_str, kit_list_list, kit_list_tuple, kit_list_dict, kit_tuple_int, kit_tuple_bool, kit_tuple_str, kit_tuple_list, kit_tuple_tuple, kit_tuple_dict, kit_dict_int, kit_dict_bool, kit_dict_str, kit_dict_list, kit_dict_tuple, kit_dict_dict], false, rfl, hk⟩
    | bl b => refine ⟨false, by simp [isTs, isT, D.ty, kit_NoneType_int, kit_NoneType_bool, kit_NoneType_str, kit_NoneType_list, kit_NoneType_tuple, kit_NoneType_dict, kit_bool_int, kit_bool_bool, kit_bool_str, kit_bool_list, kit_bool_tuple, kit_bool_dict, kit_int_int, kit_int_bool, kit_int_str, kit_int_list, kit_int_tuple, kit_int_dict, kit_str_int, kit_str_bool, kit_str_str, kit_str_list, kit_str_tuple, kit_str_dict, kit_list_int, kit_list_bool, kit_list_str, kit_list_list, kit_list_tuple, kit_list_dict, kit_tuple_int, kit_tuple_bool, kit_tuple_str, kit_tuple_list, kit_tuple_tuple, kit_tuple_dict, kit_dict_int, kit_dict_bool, kit_dict_str, kit_dict_list, kit_dict_tuple, kit_dict_dict], false, rfl, false, by simp [isTs, isT, D.ty, kit_NoneType_int, kit_NoneType_bool, kit_NoneType_str, kit_NoneType_list, kit_NoneType_tuple, kit_NoneType_dict, kit_bool_int, kit_bool_bool, kit_bool_str, kit_bool_list, kit_bool_tuple, kit_bool_dict, kit_int_int, kit_int_bool, kit_int_str, kit_int_list, kit_int_tuple, kit_int_dict, kit_str_int, kit_str_bool, kit_str_str, kit_str_list, kit_str_tuple, kit_str_dict, kit_list_int, kit_list_bool, kit_list_str, kit_list_list, kit_list_tuple, kit_list_dict, kit_tuple_int, kit_tuple_bool, kit_tuple_str, kit_tuple_list, kit_tuple_tuple, kit_tuple_dict, kit_dict_int, kit_dict_bool, kit_dict_str, kit_dict_list, kit_dict_tuple, kit_dict_dict], false, rfl, hk⟩
    | int i => refine ⟨false, by simp [isTs, isT, D.ty, kit_NoneType_int, kit_NoneType_bool, kit_NoneType_str, kit_NoneType_list, kit_NoneType_tuple, kit_NoneType_dict, kit_bool_int, kit_bool_bool, kit_bool_str, kit_bool_list, kit_bool_tuple, kit_bool_dict, kit_int_int, kit_int_bool, kit_int_str, kit_int_list, kit_int_tuple, kit_int_dict, kit_str_int, kit_str_bool, kit_str_str, kit_str_list, kit_str_tuple, kit_str_dict, kit_list_int, kit_list_bool, kit_list_str, kit_list_list, kit_list_tuple, kit_list_dict, kit_tuple_int, kit_tuple_bool, kit_tuple_str, kit_tuple_list, kit_tuple_tuple, kit_tuple_dict, kit_dict_int, kit_dict_bool, kit_dict_str, kit_dict_list, kit_dict_tuple, kit_dict_dict], false, rfl, false, by simp [isTs, isT, D.ty, kit_NoneType_int, kit_NoneType_bool, kit_NoneType_str, kit_NoneType_list, kit_NoneType_tuple, kit_NoneType_dict, kit_bool_int, kit_bool_bool, kit_bool_str, kit_bool_list, kit_bool_tuple, kit_bool_dict, kit_int_int, kit_int_bool, kit_int_str, kit_int_list, kit_int_tuple, kit_int_dict, kit_str_int, kit_str_bool, kit_str_str, kit_str_list, kit_str_tuple, kit_str_dict, kit_list_int, kit_list_bool, kit_list_str, kit_list_list, kit_list_tuple, kit_list_dict, kit_tuple_int, kit_tuple_bool, kit_tuple_str, kit_tuple_list, kit_tuple_tuple, kit_tuple_dict, kit_dict_int, kit_dict_bool, kit_dict_str, kit_dict_list, kit_dict_tuple, kit_dict_dict], false, rfl, hk⟩
    | str x => refine ⟨false, by simp [isTs, isT, D.ty, kit_NoneType_int, kit_NoneType_bool, kit_NoneType_str, kit_NoneType_list, kit_NoneType_tuple, kit_NoneType_dict, kit_bool_int, kit_bool_bool, kit_bool_str, kit_bool_list, kit_bool_tuple, kit_bool_dict, kit_int_int, kit_int_bool, kit_int_str, kit_int_list, kit_int_tuple, kit_int_dict, kit_str_int, kit_str_bool, kit_str_str, kit_str_list, kit_str_tuple, kit_str_dict, kit_list_int, kit_list_bool, kit_list_str, kit_list_list, kit_list_tuple, kit_list_dict, kit_tuple_int, kit_tuple_bool, kit_tuple_str, kit_tuple_list, kit_tuple_tuple, kit_tuple_dict, kit_dict_int, kit_dict_bool, kit_dict_str, kit_dict_list, kit_dict_tuple, kit_dict_dict], false, rfl, false, by simp [isTs, isT, D.ty, kit_NoneType_int, kit_NoneType_bool, kit_NoneType_str, kit_NoneType_list, kit_NoneType_tuple, kit_NoneType_dict, kit_bool_int, kit_bool_bool, kit_bool_str, kit_bool_list, kit_bool_tuple, kit_bool_dict, kit_int_int, kit_int_bool, kit_int_str, kit_int_list, kit_int_tuple, kit_int_dict, kit_str_int, kit_str_bool, kit_str_str, kit_str_list, kit_str_tuple, kit_str_dict, kit_list_int, kit_list_bool, kit_list_str, kit_list_list, kit_list_tuple, kit_list_dict, kit_tuple_int, kit_tuple_bool, kit_tuple_str, kit_tuple_list, kit_tuple_tuple, kit_tuple_dict, kit_dict_int, kit_dict_bool, kit_dict_str, kit_dict_list, kit_dict_tuple, kit_dict_dict], false, rfl, hk⟩
    | dic ks xs =>
      have e : ks = [] ∧ xs = [] := by
        rcases Bool.or_eq_true_iff.mp hp with z | z
        · unfold D.isEmp at z
          split at z
          · rename_i h; cases h; exact ⟨rfl, rfl⟩
          · cases z
        · exact absurd z (by unfold D.wf; exact Bool.false_ne_true)
      obtain ⟨rfl, rfl⟩ := e
      refine ⟨false, by simp [isTs, isT, D.ty, kit_NoneType_int, kit_NoneType_bool, kit_NoneType_str, kit_NoneType_list, kit_NoneType_tuple, kit_NoneType_dict, kit_bool_int, kit_bool_bool, kit_bool_str, kit_bool_list, kit_bool_tuple, kit_bool_dict, kit_int_int, kit_int_bool, kit_int_str, kit_int_list, kit_int_tuple, kit_int_dict, kit_str_int, kit_str_bool, kit_str_str, kit_str_list, kit_str_tuple, kit_str_dict, kit_list_int, kit_list_bool, kit_list_str, kit_list_list, kit_list_tuple, kit_list_dict, kit_tuple_int, kit_tuple_bool, kit_tuple_str, kit_tuple_list, kit_tuple_tuple, kit_tuple_dict, kit_dict_int, kit_dict_bool, kit_dict_str, kit_dict_list, kit_dict_tuple, kit_dict_dict], false, rfl, true, by simp [isTs, isT, D.ty, kit_NoneType_int, kit_NoneType_bool, kit_NoneType_str, kit_NoneType_list, kit_NoneType_tuple, kit_NoneType_dict, kit_bool_int, kit_bool_bool, kit_bool_str, kit_bool_list, kit_bool_tuple, kit_bool_dict, kit_int_int, kit_int_bool, kit_int_str, kit_int_list, kit_int_tuple, kit_int_dict, kit_str_int, kit_str_bool, kit_str_str, kit_str_list, kit_str_tuple, kit_str_dict, kit_list_int, kit_list_bool, kit_list_str, kit_list_list, kit_list_tuple, kit_list_dict, kit_tuple_int, kit_tuple_bool, kit_tuple_str, kit_tuple_list, kit_tuple_tuple, kit_tuple_dict, kit_dict_int, kit_dict_bool, kit_dict_str, kit_dict_list, kit_dict_tuple, kit_dict_dict], true, rfl, rfl, hk⟩
    | _ => exact absurd hp (by unfold D.gd D.isEmp D.wf; exact Bool.false_ne_true)
theorem compGo_lo {turn : List DB → Nat → (Option DB → Nat → Prop) → Prop} {K : List D → Bool → Nat → Prop} {b : Bool} : ∀ (xs acc : List D) (n : Nat), D.cnts xs ≤ n →
    (∀ x ∈ xs, ∀ (n : Nat) (k : Option DB → Nat → Prop), x.cnt ≤ n → (∀ e n', Lo x e → n - x.cnt ≤ n' → k (some (e, true)) n') → turn [(x, fl b x)] n k) → acc.length + xs.length ≤ sizeLine →
    (∀ ys n', LoL xs ys → n - D.cnts xs ≤ n' → K (acc ++ ys) true n') → compGo turn (xs.map fun d => [((d, fl b d) : DB)]) acc true n K
  | [], acc, n, _, _, _, hK => by
    unfold compGo
    have := hK [] n .nil (by omega)
    simpa using this
  | x :: xs, acc, n, hn, h, hl, hK => by
    unfold D.cnts at hn
    rw [List.length_cons] at hl
    rw [List.map_cons]
    unfold compGo
    refine h x List.mem_cons_self n _ (by omega) fun e n1 he hn1 => ⟨by omega, ?_⟩
    refine compGo_lo xs _ _ (by omega) (fun y hy => h y (List.mem_cons_of_mem _ hy)) (by rw [List.length_append]; simp; omega) fun ys n2 hy hn2 => ?_
    have := hK (e :: ys) n2 (.cons he hy) (by unfold D.cnts; omega)
    simpa using this
theorem loose_ok (hg : tb[g]? = some (fLooseT g)) : ∀ (m : Nat) (d : D), d.gd = true → d.dep < m → ∀ (n : Nat) (k : KE), d.cnt ≤ n → (∀ e n' c, Lo d e → (d.isEmp = false → c = true) → n - d.cnt ≤ n' → k (e, c) n') → evF tb m g [.strm, d] n k
  | 0, d, _, hd, _, _, _, _ => absurd hd (Nat.not_lt_zero _)
  | m + 1, d, hp, hd, n, k, hn, hk => by
    have ih := loose_ok hg m
    have seq : ∀ (xs : List D) (d0 : D) (kk : List D → Bool → Nat → Prop), D.wfs xs = true → xs.length ≤ 1000 → D.deps xs < m → D.cnts xs ≤ n → (∀ ys n', LoL xs ys → n - D.cnts xs ≤ n' → kk ys true n') → compGo (fun vs n k => ∃ f', bindT (wipeF [.v .strm false, .v d0 false, .no, .no] [3]) [3] vs = some f' ∧ evTall (evF tb m) .nil f' n fun t n1 => if t = true then evE (evF tb m) (.call g (.cons (.var 0) (.cons (.var 3) .nil))) f' n1 fun r n2 => k (some r) n2 else k none n1) (xs.map fun d => [((d, fl false d) : DB)]) [] true n kk := by
      intro xs d0 kk hw hl hdp hc hkk
      refine compGo_lo xs [] n hc (fun x hx n k hn hk => ?_) (by rw [sizeLine_eq]; simp; omega) (by simpa using hkk)
      refine ⟨_, rfl, ?_⟩
      have hdx := deps_mem hx
      have hxw := wfs_mem hw hx
      refine ih x (by unfold D.gd; rw [hxw, Bool.or_true]) (by omega) n _ hn fun e n' c he hc hn' => ?_
      have : x.isEmp = false := by
        cases x with
        | dic _ _ => exact absurd hxw (by unfold D.wf; exact Bool.false_ne_true)
        | _ => rfl
      rw [hc this]
      exact hk e n' he hn'
    have fin : ∀ (xs ys : List D) (d0 : D) (n1 : Nat), 1 ≤ n1 → (∀ e, (e = .lst ys ∨ e = .tup ys) → k (e, true) (n1 - 1)) → evSs (evF tb m) (.cons (.frz 2 (.ret (.ife (.tc .Eq (.ex (.draw (.var 0) (.int 2))) (.ex (.int 0))) (.var 2) (.bi .tuple (.ex (.var 2)))))) .nil) ⟨fun f n => evSs (evF tb m) (.cons (.ret (.var 1)) .nil) ⟨fun _ n => k (.non, true) n, k, fun _ _ => False⟩ f n, k, fun _ _ => False⟩ [.v .strm false, .v d0 false, .l ys true, .no] n1 := by
      intro xs ys d0 n1 h1 hk
      refine ⟨_, rfl, ?_⟩
      refine drawD_ok (by decide) (by decide) h1 fun j j0 j1 => ?_
      refine ⟨_, _, rfl, rfl, shInt _, shInt _, ?_⟩
      rw [eqv_int]
      by_cases hj : j = 0
      · rw [decide_eq_true hj]
        exact hk _ (.inl rfl)
      · rw [decide_eq_false hj]
        exact hk _ (.inr rfl)
    rw [evF_at (F := fLooseT g) hg]
    refine ⟨rfl, ?_⟩
    cases d with
    | lst xs =>
      have hw : D.wf (.lst xs) = true := hp
      unfold D.wf at hw
      obtain ⟨h1, h2⟩ := Bool.and_eq_true_iff.mp hw
      unfold D.cnt at hn
      show evSs _ _ _ [.v .strm false, .v (.lst xs) false, .no, .no] _
      refine ⟨true, ?_, true, rfl, ?_⟩
      · simp [isTs, isT, D.ty, kit_NoneType_int, kit_NoneType_bool, kit_NoneType_str, kit_NoneType_list, kit_NoneType_tuple, kit_NoneType_dict, kit_bool_int, kit_bool_bool, kit_bool_str, kit_bool_list, kit_bool_tuple, kit_bool_dict, kit_int_int, kit_int_bool, kit_int_str, kit_int_list, kit_int_tuple, kit_int_dict, kit_str_int, kit_str_bool, kit_str_str, kit_str_list, kit_str_tuple, kit_str_dict, kit_list_int, kit_list_bool, kit_list_str, kit_list_list, kit_list_tuple, kit_list_dict, kit_tuple_int, kit_tuple_bool, kit_tuple_str, kit_tuple_list, kit_tuple_tuple, kit_tuple_dict, kit_dict_int, kit_dict_bool, kit_dict_str, kit_dict_list, kit_dict_tuple, kit_dict_dict]
      refine seq xs _ _ h2 (of_decide_eq_true h1) (by unfold D.dep at hd; omega) (by omega) fun ys n1 hy hn1 => ?_
      refine fin xs ys _ n1 (by omega) fun e he => ?_
      refine hk e _ true ?_ (fun _ => rfl) (by unfold D.cnt; omega)
      rcases he with rfl | rfl
      · exact .ll hy
      · exact .lt hy
    | tup xs =>
      have hw : D.wf (.tup xs) = true := hp
      unfold D.wf at hw
      obtain ⟨h1, h2⟩ := Bool.and_eq_true_iff.mp hw
      unfold D.cnt at hn
      show evSs _ _ _ [.v .strm false, .v (.tup xs) false, .no, .no] _
      refine ⟨true, ?_, true, rfl, ?_⟩
      · simp [isTs, isT, D.ty, kit_NoneType_int, kit_NoneType_bool, kit_NoneType_str, kit_NoneType_list, kit_NoneType_tuple, kit_NoneType_dict, kit_bool_int, kit_bool_bool, kit_bool_str, kit_bool_list, kit_bool_tuple, kit_bool_dict, kit_int_int, kit_int_bool, kit_int_str, kit_int_list, kit_int_tuple, kit_int_dict, kit_str_int, kit_str_bool, kit_str_str, kit_str_list, kit_str_tuple, kit_str_dict, kit_list_int, kit_list_bool, kit_list_str, kit_list_list, kit_list_tuple, kit_list_dict, kit_tuple_int, kit_tuple_bool, kit_tuple_str, kit_tuple_list, kit_tuple_tuple, kit_tuple_dict, kit_dict_int, kit_dict_bool, kit_dict_str, kit_dict_list, kit_dict_tuple, kit_dict_dict]
      refine seq xs _ _ h2 (of_decide_eq_true h1) (by unfold D.dep at hd; omega) (by omega) fun ys n1 hy hn1 => ?_
      refine fin xs ys _ n1 (by omega) fun e he => ?_
      refine hk e _ true ?_ (fun _ => rfl) (by unfold D.cnt; omega)
      rcases he with rfl | rfl
      · exact .tl hy
      · exact .tt hy
    | non => exact ⟨false, by simp [isTs, isT, D.ty, kit_NoneType_int, kit_NoneType_bool, kit_NoneType_str, kit_NoneType_list, kit_NoneType_tuple, kit_NoneType_dict, kit_bool_int, kit_bool_bool, kit_bool_str, kit_bool_list, kit_bool_tuple, kit_bool_dict, kit_int_int, kit_int_bool, kit_int_str, kit_int_list, kit_int_tuple, kit_int_dict, kit_str_int, kit_str_bool, kit_str_str, kit_str_list, kit_str_tuple, kit_str_dict, kit_list_int, kit_list_bool, kit_list_str, kit_list_list, kit_list_tuple, kit_list_dict, kit_tuple_int, kit_tuple_bool, kit_tuple_str, kit_tuple_list, kit_tuple_tuple, kit_tuple_dict, kit_dict_int, kit_dict_bool, kit_dict_str, kit_dict_list, kit_dict_tuple, kit_dict_dict], false, rfl, hk _ _ true .non (fun _ => rfl) (by unfold D.cnt; omega)⟩
    | bl b => exact ⟨false, by simp [isTs, isT, D.ty, kit_NoneType_int, kit_NoneType_bool, kit_NoneType_str, kit_NoneType_list, kit_NoneType_tuple, kit_NoneType_dict, kit_bool_int, kit_bool_bool, kit_bool_str, kit_bool_list, kit_bool_tuple, kit_bool_dict, kit_int_int, kit_int_bool, kit_int_str, kit_int_list, kit_int_tuple, kit_int_dict, kit_str_int, kit_str_bool, kit_str_str, kit_str_list, kit_str_tuple, kit_str_dict, kit_list_int, kit_list_bool, kit_list_str, kit_list_list, kit_list_tuple, kit_list_dict, kit_tuple_int, kit_tuple_bool, kit_tuple_str, kit_tuple_list, kit_tuple_tuple, kit_tuple_dict, kit_dict_int, kit_dict_bool, kit_dict_str, kit_dict_list, kit_dict_tuple, kit_dict_dict], false, rfl, hk _ _ true (.bl b) (fun _ => rfl) (by unfold D.cnt; omega)⟩
    | int i => exact ⟨false, by simp [isTs, isT, D.ty, kit_NoneType_int, kit_NoneType_bool, kit_NoneType_str, kit_NoneType_list, kit_NoneType_tuple, kit_NoneType_dict, kit_bool_int, kit_bool_bool, kit_bool_str, kit_bool_list, kit_bool_tuple, kit_bool_dict, kit_int_int, kit_int_bool, kit_int_str, kit_int_list, kit_int_tuple, kit_int_dict, kit_str_int, kit_str_bool, kit_str_str, kit_str_list, kit_str_tuple, kit_str_dict, kit_list_int, kit_list_bool, kit_list_str, kit_list_list, kit_list_tuple, kit_list_dict, kit_tuple_int, kit_tuple_bool, kit_tuple_str, kit_tuple_list, kit_tuple_tuple, kit_tuple_dict, kit_dict_int, kit_dict_bool, kit_dict_str, kit_dict_list, kit_dict_tuple, kit_dict_dict], false, rfl, hk _ _ true (.int i) (fun _ => rfl) (by unfold D.cnt; omega)⟩
    | str x => exact ⟨false, by simp [isTs, isT, D.ty, kit_NoneType_int, kit_NoneType_bool, kit_NoneType_str, kit_NoneType_list, kit_NoneType_tuple, kit_NoneType_dict, kit_bool_int, kit_bool_bool, kit_bool_str, kit_bool_list, kit_bool_tuple, kit_bool_dict, kit_int_int, kit_int_bool, kit_int_str, kit_int_list, kit_int_tuple, kit_int_dict, kit_str_int, kit_str_bool, kit_str_str, kit_str_list, kit_str_tuple, kit_str_dict, kit_list_int, kit_list_bool, kit_list_str, kit_list_list, kit_list_tuple, kit_list_dict, kit_tuple_int, kit_tuple_bool, kit_tuple_str, kit_tuple_list, kit_tuple_tuple, kit_tuple_dict, kit_dict_int, kit_dict_bool, kit_dict_str, kit_dict_list, kit_dict_tuple, kit_dict_dict], false, rfl, hk _ _ true (.str x) (fun _ => rfl) (by unfold D.cnt; omega)⟩
    | dic ks xs =>
      have e : ks = [] ∧ xs = [] := by
        rcases Bool.or_eq_true_iff.mp hp with z | z
        · unfold D.isEmp at z
          split at z
          · rename_i h; cases h; exact ⟨rfl, rfl⟩
          · cases z
        · exact absurd z (by unfold D.wf; exact Bool.false_ne_true)
      obtain ⟨rfl, rfl⟩ := e
      exact ⟨false, by simp [isTs, isT, D.ty, kit_NoneType_int, kit_NoneType_bool, kit_NoneType_str, kit_NoneType_list, kit_NoneType_tuple, kit_NoneType_dict, kit_bool_int, kit_bool_bool, kit_bool_str, kit_bool_list, kit_bool_tuple, kit_bool_dict, kit_int_int, kit_int_bool, kit_int_str, kit_int_list, kit_int_tuple, kit_int_dict, kit_str_int, kit_str_bool, kit_str_str, kit_str_list, kit_str_tuple, kit_str_dict, kit_list_int, kit_list_bool, kit_list_str, kit_list_list, kit_list_tuple, kit_list_dict, kit_tuple_int, kit_tuple_bool, kit_tuple_str, kit_tuple_list, kit_tuple_tuple, kit_tuple_dict, kit_dict_int, kit_dict_bool, kit_dict_str, kit_dict_list, kit_dict_tuple, kit_dict_dict], false, rfl, hk _ _ false .emp (fun h => by cases h) (by unfold D.cnt; omega)⟩
    | _ => exact absurd hp (by unfold D.gd D.isEmp D.wf; exact Bool.false_ne_true)
end
end DL

set_option maxHeartbeats 4000000
/-! DP8: one step at the head: what a goal of the evaluator comes to. -/
namespace DL
open PySem PySem.Spec PyProof.Rows L2
section
variable {cf : Nat → List D → Nat → KE → Prop} {ss : XSs} {K : DE} {f : DL.Fr} {n : Nat}
/-! statements -/
theorem s_norm {i : Nat} {s : Sl} {f' : DL.Fr} (e : f.set i s = f') (h : evSs cf ss K f' n) : evSs cf ss K (f.set i s) n := by rw [e]; exact h
theorem s_normP {ts : List Nat} {ls : List Sl} {f' : DL.Fr} (e : setSs f ts ls = f') (h : evSs cf ss K f' n) : evSs cf ss K (setSs f ts ls) n := by rw [e]; exact h
theorem s_asgE {i : Nat} {e : XE} (h : evE cf e f n (fun r n1 => evSs cf ss K (f.set i (.v r.1 r.2)) n1)) : evSs cf (.cons (.asg i (.e e)) ss) K f n := h
theorem s_asgL {i : Nat} {l : XL} (h : evL cf l f n (fun xs b n1 => evSs cf ss K (f.set i (.l xs (fls b xs))) n1)) : evSs cf (.cons (.asg i (.l l)) ss) K f n := h
theorem s_asgK {i : Nat} (h : evSs cf ss K (f.set i (.k [] [] true)) n) : evSs cf (.cons (.asg i .k) ss) K f n := h
theorem s_asgKt {i : Nat} (h : evSs cf ss K (f.set i (.kt [] [] true)) n) : evSs cf (.cons (.asg i .kt) ss) K f n := h
theorem s_par2 {i j : Nat} {r q : XR} (h : evR cf r f n (fun a n1 => evR cf q f n1 (fun b n2 => evSs cf ss K ((f.set i a).set j b) n2))) : evSs cf (.cons (.par2 i j r q) ss) K f n := h
theorem s_par {ts : List Nat} {rs : List XR} (h : evRs cf rs f n (fun ss1 n1 => ss1.length = ts.length ∧ evSs cf ss K (setSs f ts ss1) n1)) : evSs cf (.cons (.par ts rs) ss) K f n := h
theorem r_e {e : XE} {k : Sl → Nat → Prop} (h : evE cf e f n (fun r n1 => k (.v r.1 r.2) n1)) : evR cf (.e e) f n k := h
theorem r_l {l : XL} {k : Sl → Nat → Prop} (h : evL cf l f n (fun xs b n1 => k (.l xs (fls b xs)) n1)) : evR cf (.l l) f n k := h
theorem r_k {k : Sl → Nat → Prop} (h : k (.k [] [] true) n) : evR cf .k f n k := h
theorem r_kt {k : Sl → Nat → Prop} (h : k (.kt [] [] true) n) : evR cf .kt f n k := h
theorem rs_nil {k : List Sl → Nat → Prop} (h : k [] n) : evRs cf [] f n k := h
theorem rs_cons {r : XR} {rs : List XR} {k : List Sl → Nat → Prop} (h : evR cf r f n (fun s n1 => evRs cf rs f n1 (fun ss n2 => k (s :: ss) n2))) : evRs cf (r :: rs) f n k := h
theorem s_unp {ts : List Nat} {e : XE} (h : evE cf e f n (fun x n1 => match x with
    | (.tup xs, b) => xs.length = ts.length ∧ ∃ f', setTs f ts (xs.map fun d => (d, fl b d)) = some f' ∧ evSs cf ss K f' n1
    | (.lst xs, b) => xs.length = ts.length ∧ ∃ f', setTs f ts (xs.map fun d => (d, fl b d)) = some f' ∧ evSs cf ss K f' n1
    | _ => False)) : evSs cf (.cons (.unp ts e) ss) K f n := h
theorem s_expr {e : XE} (h : evE cf e f n (fun _ n1 => evSs cf ss K f n1)) : evSs cf (.cons (.expr e) ss) K f n := h
theorem s_ret {e : XE} (h : evE cf e f n K.rt) : evSs cf (.cons (.ret e) ss) K f n := h
theorem s_retN (h : K.rt (.non, true) n) : evSs cf (.cons .retN ss) K f n := h
theorem s_ife {c : XT} {a b : XSs} (h : evT cf c f n (fun t n1 => if t = true then evSs cf a ⟨fun f n => evSs cf ss K f n, K.rt, K.ct⟩ f n1 else evSs cf b ⟨fun f n => evSs cf ss K f n, K.rt, K.ct⟩ f n1)) : evSs cf (.cons (.ife c a b) ss) K f n := h
theorem s_nil (h : K.nx f n) : evSs cf .nil K f n := h
theorem s_app {i : Nat} {e : XE} {xs : List D} {b : Bool} (hf : f[i]? = some (.l xs b)) (h : evE cf e f n (fun x n1 => xs.length < sizeLine ∧ evSs cf ss K (f.set i (.l (xs ++ [x.1]) (b && x.2))) n1)) : evSs cf (.cons (.app i e) ss) K f n := by
  show evS cf (.app i e) _ f n
  unfold evS
  rw [hf]
  exact h
theorem s_ext {i : Nat} {o : XO} {xs : List D} {b : Bool} (hf : f[i]? = some (.l xs b)) (h : evO cf o f n (fun x n1 => match x with
      | (.lst ys, c) => xs.length + ys.length ≤ sizeLine ∧ evSs cf ss K (f.set i (.l (xs ++ ys) (b && fls c ys))) n1
      | _ => False)) : evSs cf (.cons (.ext i o) ss) K f n := by
  show evS cf (.ext i o) _ f n
  unfold evS
  rw [hf]
  exact h
theorem s_setL {i : Nat} {ix e : XE} {xs : List D} {b : Bool} (hf : f[i]? = some (.l xs b)) (h : evE cf e f n (fun x n1 => evE cf ix f n1 (fun y n2 => match y.1 with
      | .int m => ∃ j, ixN xs.length m = some j ∧ evSs cf ss K (f.set i (.l (xs.set j x.1) (b && x.2))) n2
      | _ => False))) : evSs cf (.cons (.setL i ix e) ss) K f n := by
  show evS cf (.setL i ix e) _ f n
  unfold evS
  rw [hf]
  exact h
theorem s_frz {i : Nat} {s : XS} {s0 s1 : Sl} (hf : f[i]? = some s0) (h2 : frzS s0 = some s1) (h : evSs cf (.cons s ss) K (f.set i s1) n) : evSs cf (.cons (.frz i s) ss) K f n := by
  show evS cf (.frz i s) _ f n
  unfold evS
  rw [hf]
  exact ⟨s1, h2, h⟩
theorem s_asgS {i : Nat} {e : XE} (h : evE cf e (view f) n (fun x n1 => x.2 = true ∧ evSs cf ss K (f.set i (.sep x.1)) n1)) : evSs cf (.cons (.asgS i e) ss) K f n := h
theorem s_asgV {i : Nat} {e : XE} (h : evE cf e (view f) n (fun x n1 => x.2 = true ∧ evSs cf ss K (f.set i (.v x.1 true)) n1)) : evSs cf (.cons (.asgV i e) ss) K f n := h
theorem s_parS {i j : Nat} {a b : XE} (h : evE cf a f n (fun x n1 => evE cf b (view f) n1 (fun y n2 => x.1.scal = true ∧ y.2 = true ∧ evSs cf ss K ((f.set i (.v x.1 true)).set j (.sep y.1)) n2))) : evSs cf (.cons (.parS i j a b) ss) K f n := h
/-! expressions -/
section
variable {k : KE}
theorem e_var {i : Nat} {d : D} {b : Bool} (hf : f[i]? = some (.v d b)) (h : k (d, b) n) : evE cf (.var i) f n k := by
  unfold evE
  rw [hf]
  exact h
theorem e_int {i : Int} (h : k (.int i, true) n) : evE cf (.int i) f n k := h
theorem e_str {x : Str} (h : k (.str x, true) n) : evE cf (.str x) f n k := h
theorem e_bl {b : Bool} (h : k (.bl b, true) n) : evE cf (.bl b) f n k := h
theorem e_non (h : k (.non, true) n) : evE cf .non f n k := h
theorem e_emp (h : k (.dic [] [], true) n) : evE cf .emp f n k := h
theorem e_bin {op : Operator} {a b : XE} (h : evE cf a f n fun x n1 => evE cf b f n1 fun y n2 => binD op x y fun r => k r n2) : evE cf (.bin op a b) f n k := h
theorem e_neg {a : XE} (h : evE cf a f n fun x n1 => match x.1 with
    | .int i => k (.int (-i), true) n1
    | _ => False) : evE cf (.neg a) f n k := h
theorem e_cmp {op : CmpOp} {a b : XO} (h : evO cf a f n fun x n1 => evO cf b f n1 fun y n2 => cmpD op x.1 y.1 fun c => k (.bl c, true) n2) : evE cf (.cmp op a b) f n k := h
theorem e_not {a : XE} (h : evE cf a f n fun x n1 => match x.1 with
    | .bl c => k (.bl (!c), true) n1
    | _ => False) : evE cf (.not a) f n k := h
theorem e_and {es : XEs} (h : evAnd cf es f n k) : evE cf (.andV es) f n k := h
theorem e_or {es : XEs} (h : evOr cf es f n k) : evE cf (.orV es) f n k := h
theorem a_one {e : XE} (h : evE cf e f n k) : evAnd cf (.cons e .nil) f n k := h
theorem a_two {e e2 : XE} {es : XEs} (h : evE cf e f n fun x n1 => match x.1 with
      | .bl c => if c = true then evAnd cf (.cons e2 es) f n1 k else k (.bl false, true) n1
      | _ => False) : evAnd cf (.cons e (.cons e2 es)) f n k := h
theorem o_one {e : XE} (h : evE cf e f n k) : evOr cf (.cons e .nil) f n k := h
theorem o_two {e e2 : XE} {es : XEs} (h : evE cf e f n fun x n1 => match x.1 with
      | .bl c => if c = true then k (.bl true, true) n1 else evOr cf (.cons e2 es) f n1 k
      | _ => False) : evOr cf (.cons e (.cons e2 es)) f n k := h
theorem e_ife {c : XT} {a b : XE} (h : evT cf c f n fun t n1 => if t = true then evE cf a f n1 k else evE cf b f n1 k) : evE cf (.ife c a b) f n k := h
theorem e_idx {a : XO} {i : XE} (h : evO cf a f n fun x n1 => evE cf i f n1 fun y n2 => idxD x y fun r => k r n2) : evE cf (.idx a i) f n k := h
theorem e_nl {l : XL} (h : evL cf l f n fun xs b n1 => k (.lst xs, fls b xs) n1) : evE cf (.nl l) f n k := h
theorem e_tup {es : XEs} (h : evEs cf es f n fun xs b n1 => xs.length ≤ sizeLine ∧ k (.tup xs, b) n1) : evE cf (.tup es) f n k := h
theorem e_call {g : Nat} {es : XEs} (h : evEs cf es f n fun xs _ n1 => cf g xs n1 k) : evE cf (.call g es) f n k := h
theorem e_kcall {g : Nat} {es : XEs} {ks : List Str} {kes : XEs} {ord : List Nat} (h : evEs cf es f n fun xs _ n1 => evEs cf kes f n1 fun ys _ n2 => ∃ zs, xs.length = es.len ∧ ys.length = ks.length ∧ pick (xs ++ ys) ord = some zs ∧ cf g zs n2 k) : evE cf (.kcall g es ks kes ord) f n k := h
theorem e_draw {s m : XE} (h : evE cf s f n fun x n1 => evE cf m f n1 fun y n2 => drawD x.1 y.1 n2 k) : evE cf (.draw s m) f n k := h
theorem e_bi {b : Bi} {a : XO} (h : evO cf a f n fun x n1 => biD b x fun r => k r n1) : evE cf (.bi b a) f n k := h
theorem e_bi2 {b : Bi} {a c : XE} (h : evE cf a f n fun x n1 => evE cf c f n1 fun y n2 => bi2D b x y fun r => k r n2) : evE cf (.bi2 b a c) f n k := h
theorem e_isi {a : XE} {ts : List Ty} {one : Bool} (h : evE cf a f n fun x n1 => ∃ c, isTs x.1 ts = some c ∧ k (.bl c, true) n1) : evE cf (.isi a ts one) f n k := h
theorem e_sc {a : XE} (h : evE cf a (view f) n fun x n1 => x.1.scal = true ∧ k (x.1, true) n1) : evE cf (.sc a) f n k := h
theorem e_sls {a : XO} {lo hi : XP} (h : evO cf a f n fun x n1 => evP cf lo f n1 fun i n2 => evP cf hi f n2 fun j n3 => match x with
    | (.lst xs, b) => k (.lst (cutD xs i j), b) n3
    | (.tup xs, b) => k (.tup (cutD xs i j), b) n3
    | _ => False) : evE cf (.sls a lo hi) f n k := h
theorem e_rvs {a : XO} (h : evO cf a f n fun x n1 => match x with
    | (.lst xs, b) => k (.lst xs.reverse, b) n1
    | (.tup xs, b) => k (.tup xs.reverse, b) n1
    | _ => False) : evE cf (.rvs a) f n k := h
theorem e_catT {a b : XE} (h : evE cf a f n fun x n1 => evE cf b f n1 fun y n2 => match x, y with
    | (.tup xs, b), (.tup ys, c) => xs ≠ [] ∧ ys ≠ [] ∧ xs.length + ys.length ≤ sizeLine ∧ k (.tup (xs ++ ys), b && c) n2
    | _, _ => False) : evE cf (.catT a b) f n k := h
theorem o_ex {e : XE} (h : evE cf e f n k) : evO cf (.ex e) f n k := h
theorem o_ownL {i : Nat} {xs : List D} {b : Bool} (hf : f[i]? = some (.l xs b)) (h : k (.lst xs, b) n) : evO cf (.own i) f n k := by
  unfold evO
  rw [hf]
  exact h
theorem o_ownK {i : Nat} {ks : List Key} {xs : List D} {b : Bool} (hf : f[i]? = some (.k ks xs b)) (h : k (.dic ks xs, b) n) : evO cf (.own i) f n k := by
  unfold evO
  rw [hf]
  exact h
theorem o_ownKt {i : Nat} {ks : List (List Key)} {xs : List D} {b : Bool} (hf : f[i]? = some (.kt ks xs b)) (h : k (.dit ks xs, b) n) : evO cf (.own i) f n k := by
  unfold evO
  rw [hf]
  exact h
end
theorem xs_nil {k : List D → Bool → Nat → Prop} (h : k [] true n) : evEs cf .nil f n k := h
theorem xs_cons {e : XE} {es : XEs} {k : List D → Bool → Nat → Prop} (h : evE cf e f n fun x n1 => evEs cf es f n1 fun xs b n2 => k (x.1 :: xs) (x.2 && b) n2) : evEs cf (.cons e es) f n k := h
theorem p_no {k : Option Int → Nat → Prop} (h : k none n) : evP cf .no f n k := h
theorem p_yes {e : XE} {k : Option Int → Nat → Prop} (h : evE cf e f n fun x n1 => match x.1 with
    | .int i => k (some i) n1
    | _ => False) : evP cf (.yes e) f n k := h
/-! lists -/
section
variable {k : List D → Bool → Nat → Prop}
theorem l_lit {es : XEs} (h : evEs cf es f n fun xs b n1 => xs.length ≤ sizeLine ∧ k xs b n1) : evL cf (.lit es) f n k := h
theorem l_cat {a b : XO} (h : evO cf a f n fun x n1 => evO cf b f n1 fun y n2 => match x, y with
    | (.lst xs, b), (.lst ys, c) => xs.length + ys.length ≤ sizeLine ∧ k (xs ++ ys) (fls b xs && fls c ys) n2
    | _, _ => False) : evL cf (.cat a b) f n k := h
theorem l_rep {a : XO} {m : XE} (h : evO cf a f n fun x n1 => evE cf m f n1 fun y n2 => match x, y.1 with
    | (.lst xs, b), .int m => -(2 ^ 63) ≤ m ∧ m < 2 ^ 63 ∧ xs.length * m.toNat ≤ sizeLine ∧ k (List.replicate m.toNat xs).flatten (fls b xs) n2
    | _, _ => False) : evL cf (.rep a m) f n k := h
theorem l_sl {a : XO} {lo hi : XP} (h : evO cf a f n fun x n1 => evP cf lo f n1 fun i n2 => evP cf hi f n2 fun j n3 => match x with
    | (.lst xs, b) => k (cutD xs i j) (fls b xs) n3
    | _ => False) : evL cf (.sl a lo hi) f n k := h
theorem l_rev {a : XO} (h : evO cf a f n fun x n1 => match x with
    | (.lst xs, b) => k xs.reverse (fls b xs) n1
    | _ => False) : evL cf (.rev a) f n k := h
theorem l_of {a : XO} (h : evO cf a f n fun x n1 => match x with
    | (.lst xs, b) => k xs (fls b xs) n1
    | (.tup xs, b) => k xs (fls b xs) n1
    | (.dic ks _, _) => k (ks.map keyD) true n1
    | (.dit ks _, _) => k (ks.map fun ys => .tup (ys.map keyD)) false n1
    | _ => False) : evL cf (.of a) f n k := h
theorem l_seg {g : XSg} (h : evSg cf g f n fun xs b n1 => xs.length ≤ sizeLine ∧ k xs b n1) : evL cf (.seg g) f n k := h
theorem g_nil (h : k [] true n) : evSg cf .nil f n k := h
theorem g_one {e : XE} {r : XSg} (h : evE cf e f n fun x n1 => evSg cf r f n1 fun xs b n2 => k (x.1 :: xs) (x.2 && b) n2) : evSg cf (.one e r) f n k := h
theorem g_star {o : XO} {r : XSg} (h : evO cf o f n fun x n1 => match x with
    | (.lst xs, b) => evSg cf r f n1 fun ys c n2 => k (xs ++ ys) (fls b xs && c) n2
    | (.tup xs, b) => evSg cf r f n1 fun ys c n2 => k (xs ++ ys) (fls b xs && c) n2
    | _ => False) : evSg cf (.star o r) f n k := h
end
/-! tests -/
section
variable {k : Bool → Nat → Prop}
theorem t_tv {e : XE} (h : evE cf e f n fun x n1 => ∃ c, truD x.1 = some c ∧ k c n1) : evT cf (.tv e) f n k := h
theorem t_tc {op : CmpOp} {a b : XO} (h : evO cf a f n fun x n1 => evO cf b f n1 fun y n2 => cmpD op x.1 y.1 fun c => k c n2) : evT cf (.tc op a b) f n k := h
theorem t_tn {t : XT} (h : evT cf t f n fun c n1 => k (!c) n1) : evT cf (.tn t) f n k := h
theorem t_tch {op op' : CmpOp} {a b c : XO} (h : evO cf a f n fun x n1 => evO cf b f n1 fun y n2 => cmpD op x.1 y.1 fun c1 => if c1 = true then evO cf c f n2 fun z n3 => cmpD op' y.1 z.1 fun c2 => k c2 n3 else k false n2) : evT cf (.tch op op' a b c) f n k := h
theorem t_ta {ts : XTs} (h : evTall cf ts f n k) : evT cf (.ta ts) f n k := h
theorem t_to {ts : XTs} (h : evTany cf ts f n k) : evT cf (.to ts) f n k := h
theorem ta_nil (h : k true n) : evTall cf .nil f n k := h
theorem ta_cons {t : XT} {ts : XTs} (h : evT cf t f n fun c n1 => if c = true then evTall cf ts f n1 k else k false n1) : evTall cf (.cons t ts) f n k := h
theorem to_nil (h : k false n) : evTany cf .nil f n k := h
theorem to_cons {t : XT} {ts : XTs} (h : evT cf t f n fun c n1 => if c = true then k true n1 else evTany cf ts f n1 k) : evTany cf (.cons t ts) f n k := h
end
end
theorem f_go {tb : List FD} {d g : Nat} {F : FD} {ds : List D} {n : Nat} {k : KE} (h : tb[g]? = some F) (hl : F.np = ds.length) (hk : evSs (evF tb d) F.body ⟨fun _ n => k (.non, true) n, k, fun _ _ => False⟩ (startF F.ns ds) n) : evF tb (d + 1) g ds n k := by
  rw [evF_at h]; exact ⟨hl, hk⟩
/-! data -/
section
variable {k : DB → Prop} {kb : Bool → Prop} {b b2 : Bool} {i j : Int}
theorem d_add (h : k (.int (i + j), true)) : binD .Add (.int i, b) (.int j, b2) k := h
theorem d_sub (h : k (.int (i - j), true)) : binD .Sub (.int i, b) (.int j, b2) k := h
theorem d_mul (o : MulOk i j) (h : k (.int (i * j), true)) : binD .Mult (.int i, b) (.int j, b2) k := ⟨o, h⟩
theorem d_div (o : CDivW i j) (h : k (.int (i / j), true)) : binD .FloorDiv (.int i, b) (.int j, b2) k := ⟨o, h⟩
theorem d_mod (o : 0 < j) (h : k (.int (i % j), true)) : binD .Mod (.int i, b) (.int j, b2) k := ⟨o, h⟩
theorem d_pow (o : CPow i j) (h : k (.int (i ^ j.toNat), true)) : binD .Pow (.int i, b) (.int j, b2) k := ⟨o, h⟩
theorem c_eqI (h : kb (decide (i = j))) : cmpD .Eq (.int i) (.int j) kb := eqI h
theorem c_neI (h : kb (!decide (i = j))) : cmpD .NotEq (.int i) (.int j) kb := neI h
theorem c_lt (h : kb (decide (i < j))) : cmpD .Lt (.int i) (.int j) kb := h
theorem c_le (h : kb (decide (i ≤ j))) : cmpD .LtE (.int i) (.int j) kb := h
theorem c_gt (h : kb (decide (j < i))) : cmpD .Gt (.int i) (.int j) kb := h
theorem c_ge (h : kb (decide (j ≤ i))) : cmpD .GtE (.int i) (.int j) kb := h
theorem c_is {d : D} {c : Bool} (e : d.isNon = c) (h : kb c) : cmpD .Is d .non kb := by subst e; exact h
theorem c_isnt {d : D} {c : Bool} (e : d.isNon = c) (h : kb (!c)) : cmpD .IsNot d .non kb := by subst e; exact h
theorem c_eqB {i j : Bool} (h : kb (decide (i = j))) : cmpD .Eq (.bl i) (.bl j) kb := ⟨_, _, rfl, rfl, shBool _, shBool _, by rw [eqv_bool]; exact h⟩
theorem c_neB {i j : Bool} (h : kb (!decide (i = j))) : cmpD .NotEq (.bl i) (.bl j) kb := ⟨_, _, rfl, rfl, shBool _, shBool _, by rw [eqv_bool]; exact h⟩
theorem b_lenL {xs : List D} (h : k (.int xs.length, true)) : biD .len (.lst xs, b) k := h
theorem b_lenT {xs : List D} (h : k (.int xs.length, true)) : biD .len (.tup xs, b) k := h
theorem b_lenI {ns : List Int} (h : k (.int ns.length, true)) : biD .len (.lst (ns.map D.int), b) k := len_ints h
theorem b_lenS {t : Bool} {ns : List Int} (h : k (.int ns.length, true)) : biD .len (seqD t ns, b) k := len_seq h
theorem b_lenK {ks : List Key} {xs : List D} (h : k (.int ks.length, true)) : biD .len (.dic ks xs, b) k := h
theorem b_lenKt {ks : List (List Key)} {xs : List D} (h : k (.int ks.length, true)) : biD .len (.dit ks xs, b) k := h
theorem b_tupL {xs : List D} (h : k (.tup xs, fls b xs)) : biD .tuple (.lst xs, b) k := h
theorem b_tupT {xs : List D} (h : k (.tup xs, b)) : biD .tuple (.tup xs, b) k := h
theorem b_int (h : k (.int i, true)) : biD .int (.int i, b) k := h
theorem b_abs (h : k (.int (if i < 0 then -i else i), true)) : biD .abs (.int i, b) k := h
theorem b_sumI {ns : List Int} (h : k (.int ns.sum, true)) : biD .sum (.lst (ns.map D.int), b) k := by
  have e : ∀ ns : List Int, intsOf (ns.map D.int) = some ns := fun ns => by
    induction ns with
    | nil => rfl
    | cons n ns ih => rw [List.map_cons, intsOf, ih]; rfl
  exact ⟨ns, e ns, h⟩
theorem m_max (h : k (.int (max i j), true)) : bi2D .max (.int i, b) (.int j, b2) k := by
  have e : (if j > i then j else i) = max i j := by rw [Int.max_def]; split <;> split <;> omega
  show k (.int (if j > i then j else i), true)
  rw [e]; exact h
theorem m_min (h : k (.int (min i j), true)) : bi2D .min (.int i, b) (.int j, b2) k := by
  have e : (if j < i then j else i) = min i j := by rw [Int.min_def]; split <;> split <;> omega
  show k (.int (if j < i then j else i), true)
  rw [e]; exact h
theorem i_L {xs : List D} {d : D} (e : atI xs i = some d) (h : k (d, fl b d)) : idxD (.lst xs, b) (.int i, b2) k := ⟨d, e, h⟩
theorem i_T {xs : List D} {d : D} (e : atI xs i = some d) (h : k (d, fl b d)) : idxD (.tup xs, b) (.int i, b2) k := ⟨d, e, h⟩
theorem ixNat {n m : Nat} (hi : m < n) : ixN n (m : Int) = some m := by
  unfold ixN
  rw [if_pos (by omega), if_pos (by omega)]
  rfl
/-- an item of numbers -/
theorem i_LI {ns : List Int} (h0 : 0 ≤ i) (h1 : i < (ns.length : Int)) (h : k (.int (gdI ns i.toNat), true)) : idxD (.lst (ns.map D.int), b) (.int i, b2) k := by
  obtain ⟨m, rfl⟩ : ∃ m : Nat, i = m := ⟨i.toNat, by omega⟩
  refine ⟨_, at_ints (by omega), ?_⟩
  rw [fl_int]
  exact h
theorem i_SI {t : Bool} {ns : List Int} (h0 : 0 ≤ i) (h1 : i < (ns.length : Int)) (h : k (.int (gdI ns i.toNat), true)) : idxD (seqD t ns, b) (.int i, b2) k := by
  obtain ⟨m, rfl⟩ : ∃ m : Nat, i = m := ⟨i.toNat, by omega⟩
  cases t <;> (refine ⟨_, at_ints (by omega), ?_⟩; rw [fl_int]; exact h)
theorem q_tru {c : Bool} {P : Bool → Prop} (h : P c) : ∃ c', truD (.bl c) = some c' ∧ P c' := ⟨c, rfl, h⟩
theorem q_truI {i : Int} {P : Bool → Prop} (h : P (i != 0)) : ∃ c', truD (.int i) = some c' ∧ P c' := ⟨_, rfl, h⟩
theorem q_truL {xs : List D} {P : Bool → Prop} (h : P (!xs.isEmpty)) : ∃ c', truD (.lst xs) = some c' ∧ P c' := ⟨_, rfl, h⟩
theorem q_rfl {α : Type} {a b : α} {P : Prop} (e : a = b) (h : P) : a = b ∧ P := ⟨e, h⟩
theorem q_unp {f : DL.Fr} {ts : List Nat} {xs : List D} {b : Bool} {P : DL.Fr → Prop} {f' : DL.Fr} (e : setTs f ts (xs.map fun d => (d, fl b d)) = some f') (h : P f') : ∃ f', setTs f ts (xs.map fun d => (d, fl b d)) = some f' ∧ P f' := ⟨f', e, h⟩
theorem q_bind {f : DL.Fr} {ts : List Nat} {xs : List DB} {P : DL.Fr → Prop} {f' : DL.Fr} (e : bindT f ts xs = some f') (h : P f') : ∃ f', bindT f ts xs = some f' ∧ P f' := ⟨f', e, h⟩
theorem q_kc {cf : Nat → List D → Nat → KE → Prop} {g n : Nat} {k : KE} {xs ys zs : List D} {ord : List Nat} {a b : Nat} (h1 : xs.length = a) (h2 : ys.length = b) (h3 : pick (xs ++ ys) ord = some zs) (h : cf g zs n k) : ∃ zs, xs.length = a ∧ ys.length = b ∧ pick (xs ++ ys) ord = some zs ∧ cf g zs n k := ⟨zs, h1, h2, h3, h⟩
theorem q_is {d : D} {ts : List Ty} {c : Bool} {P : Bool → Prop} (e : isTs d ts = some c) (h : P c) : ∃ c', isTs d ts = some c' ∧ P c' := ⟨c, e, h⟩
theorem q_pos {p q : Prop} (h : p) : if true = true then p else q := by rw [if_pos rfl]; exact h
theorem q_neg {p q : Prop} (h : q) : if false = true then p else q := by rw [if_neg Bool.false_ne_true]; exact h
theorem q_dpos {P p q : Prop} [Decidable P] (e : P) (h : p) : if decide P = true then p else q := by rw [if_pos (decide_eq_true e)]; exact h
theorem q_dneg {P p q : Prop} [Decidable P] (e : ¬ P) (h : q) : if decide P = true then p else q := by rw [if_neg (by rw [decide_eq_false e]; exact Bool.false_ne_true)]; exact h
theorem q_npos {P p q : Prop} [Decidable P] (e : ¬ P) (h : p) : if (!decide P) = true then p else q := by rw [if_pos (by rw [decide_eq_false e]; rfl)]; exact h
theorem q_nneg {P p q : Prop} [Decidable P] (e : P) (h : q) : if (!decide P) = true then p else q := by rw [if_neg (by rw [decide_eq_true e]; exact Bool.false_ne_true)]; exact h
theorem q_ntrue {p q : Prop} (h : q) : if (!true) = true then p else q := h
theorem q_nfalse {p q : Prop} (h : p) : if (!false) = true then p else q := h
theorem q_sz {m : Nat} {P : Prop} (e : m ≤ sizeLine) (h : P) : m ≤ sizeLine ∧ P := ⟨e, h⟩
theorem q_lt {m : Nat} {P : Prop} (e : m < sizeLine) (h : P) : m < sizeLine ∧ P := ⟨e, h⟩
theorem sz_le {m : Nat} (h : m ≤ 1000000) : m ≤ sizeLine := by rw [sizeLine_eq]; exact Nat.le_trans h (by decide)
theorem sz_lt {m : Nat} (h : m < 1000000) : m < sizeLine := by rw [sizeLine_eq]; exact Nat.lt_of_lt_of_le h (by decide)
end
end DL

set_option maxHeartbeats 4000000
/-! DP9: loops and lists at the head. -/
namespace DL
open PySem PySem.Spec PyProof.Rows L2
section
variable {cf : Nat → List D → Nat → KE → Prop} {ss : XSs} {K : DE} {f : DL.Fr} {n : Nat}
theorem s_for {ts : List Nat} {it : XI} {b : XSs} (h : evI cf it f n fun items n1 => forGo (fun vs f n K => ∃ f', bindT f ts vs = some f' ∧ evSs cf b K f' n) items ⟨fun f n => evSs cf ss K f n, K.rt, K.ct⟩ f n1) : evSs cf (.cons (.for ts it b) ss) K f n := h
theorem s_whl {c : XT} {b : XSs} (I : Nat → DL.Fr → Nat → Prop) {m : Nat} (h0 : I m f n)
    (hstep : ∀ m f n (W : DL.Fr → Nat → Prop), I m f n → (∀ m' f' n', m' < m → I m' f' n' → W f' n') → evT cf c f n fun t n1 => if t = true then evSs cf b ⟨W, K.rt, W⟩ f n1 else evSs cf ss K f n1) : evSs cf (.cons (.whl c b) ss) K f n :=
  whl_inv (K := ⟨fun f n => evSs cf ss K f n, K.rt, K.ct⟩) I h0 hstep
section
variable {k : List (List DB) → Nat → Prop}
theorem x_over {o : XO} (h : evO cf o f n fun x n1 => match x with
    | (.lst xs, b) => k (xs.map fun d => [(d, fl b d)]) n1
    | (.tup xs, b) => k (xs.map fun d => [(d, fl b d)]) n1
    | _ => False) : evI cf (.over o) f n k := h
theorem x_rng1 {a : XE} (h : evE cf a f n fun x n1 => match x.1 with
    | .int j => -(2 ^ 62) ≤ j ∧ j < 2 ^ 62 ∧ k ((List.range j.toNat).map fun i => [(.int (i : Nat), true)]) n1
    | _ => False) : evI cf (.rng1 a) f n k := h
theorem x_rng2 {a b : XE} (h : evE cf a f n fun x n1 => evE cf b f n1 fun y n2 => match x.1, y.1 with
    | .int i, .int j => (-(2 ^ 62) ≤ i ∧ i < 2 ^ 62 ∧ -(2 ^ 62) ≤ j ∧ j < 2 ^ 62) ∧ k ((List.range (j - i).toNat).map fun (m : Nat) => [(.int (i + m), true)]) n2
    | _, _ => False) : evI cf (.rng2 a b) f n k := h
theorem x_rng3 {a b : XE} (h : evE cf a f n fun x n1 => evE cf b f n1 fun y n2 => match x.1, y.1 with
    | .int i, .int j => (-(2 ^ 62) ≤ i ∧ i < 2 ^ 62 ∧ -(2 ^ 62) ≤ j ∧ j < 2 ^ 62) ∧ k ((List.range (i - j).toNat).map fun (m : Nat) => [(.int (i - m), true)]) n2
    | _, _ => False) : evI cf (.rng3 a b) f n k := h
theorem x_enum {o : XO} (h : evO cf o f n fun x n1 => match x with
    | (.lst xs, b) => k ((List.range xs.length).zipWith (fun i d => [(.int (i : Nat), true), (d, fl b d)]) xs) n1
    | (.tup xs, b) => k ((List.range xs.length).zipWith (fun i d => [(.int (i : Nat), true), (d, fl b d)]) xs) n1
    | _ => False) : evI cf (.enum o) f n k := h
theorem x_zip {a b : XO} (h : evO cf a f n fun x n1 => evO cf b f n1 fun y n2 => match x, y with
    | (.lst xs, b), (.lst ys, c) => k (List.zipWith (fun d e => [(d, fl b d), (e, fl c e)]) xs ys) n2
    | (.tup xs, b), (.tup ys, c) => k (List.zipWith (fun d e => [(d, fl b d), (e, fl c e)]) xs ys) n2
    | _, _ => False) : evI cf (.zip a b) f n k := h
theorem x_dctk {l : XL} (h : evL cf l f n fun xs b n1 => ∃ ks, pairKeys xs = some ks ∧ k ((ks.foldl putKs []).map fun j => [((keyD j, true) : DB)]) n1) : evI cf (.dctk l) f n k := h
end
theorem l_comp {e : XE} {ts own : List Nat} {it : XI} {c : XTs} {k : List D → Bool → Nat → Prop} (h : evI cf it f n fun items n1 => compGo (fun vs n k => ∃ f', bindT (wipeF f own) ts vs = some f' ∧ evTall cf c f' n fun t n1 => if t = true then evE cf e f' n1 fun r n2 => k (some r) n2 else k none n1) items [] true n1 k) : evL cf (.comp e ts own it c) f n k := h
/-! the list or tuple that a name stands for -/
theorem int_items {b : Bool} (ns : List Int) : (ns.map D.int).map (fun d => [((d, fl b d) : DB)]) = ns.map fun i => [((.int i, true) : DB)] := by
  rw [List.map_map]
  congr 1
  funext i
  show [(_, fl b (.int i))] = _
  rw [fl_int]
theorem x_overI {k : List (List DB) → Nat → Prop} {ns : List Int} {b : Bool} (h : k (ns.map fun i => [(.int i, true)]) n) : k ((ns.map D.int).map fun d => [(d, fl b d)]) n := by rw [int_items]; exact h
theorem x_overS {k : List (List DB) → Nat → Prop} {j : Nat} {t : Bool} {ns : List Int} {b : Bool} (hf : f[j]? = some (.v (seqD t ns) b)) (h : k (ns.map fun i => [(.int i, true)]) n) : evI cf (.over (.ex (.var j))) f n k := by
  refine x_over (o_ex (e_var hf ?_))
  cases t
  · exact x_overI h
  · exact x_overI h
theorem enum_items {b : Bool} (ns : List Int) : List.zipWith (fun (i : Nat) d => [((.int (i : Nat), true) : DB), (d, fl b d)]) (List.range (ns.map D.int).length) (ns.map D.int) = (List.range ns.length).map fun i => [((.int (i : Nat), true) : DB), (.int (gdI ns i), true)] := by
  apply List.ext_getElem?
  intro i
  rw [List.getElem?_zipWith, List.getElem?_map, List.getElem?_map, List.length_map]
  by_cases h : i < ns.length
  · rw [List.getElem?_range h, List.getElem?_eq_getElem h, ← gdI_at h]
    show some [_, (_, fl b (.int _))] = some _
    rw [fl_int]
  · rw [List.getElem?_eq_none (by simpa using h)]
    rfl
theorem x_enumS {k : List (List DB) → Nat → Prop} {j : Nat} {t : Bool} {ns : List Int} {b : Bool} (hf : f[j]? = some (.v (seqD t ns) b)) (h : k ((List.range ns.length).map fun i => [((.int (i : Nat), true) : DB), (.int (gdI ns i), true)]) n) : evI cf (.enum (.ex (.var j))) f n k := by
  refine x_enum (o_ex (e_var hf ?_))
  rw [← enum_items (b := b)] at h
  cases t
  · exact h
  · exact h
theorem x_enumI {k : List (List DB) → Nat → Prop} {ns : List Int} {b : Bool} (h : k ((List.range ns.length).map fun i => [((.int (i : Nat), true) : DB), (.int (gdI ns i), true)]) n) : k ((List.range (ns.map D.int).length).zipWith (fun (i : Nat) d => [((.int (i : Nat), true) : DB), (d, fl b d)]) (ns.map D.int)) n := by rw [enum_items]; exact h
theorem e_rvsS {j : Nat} {t : Bool} {ns : List Int} {b : Bool} {k : KE} (hf : f[j]? = some (.v (seqD t ns) b)) (h : k (seqD t ns.reverse, b) n) : evE cf (.rvs (.ex (.var j))) f n k := by
  refine e_rvs (o_ex (e_var hf ?_))
  cases t
  · show k (.tup (ns.map D.int).reverse, b) n
    rw [← List.map_reverse]; exact h
  · show k (.lst (ns.map D.int).reverse, b) n
    rw [← List.map_reverse]; exact h
theorem l_ofS {j : Nat} {t : Bool} {ns : List Int} {b : Bool} {k : List D → Bool → Nat → Prop} (hf : f[j]? = some (.v (seqD t ns) b)) (h : k (ns.map D.int) true n) : evL cf (.of (.ex (.var j))) f n k := of_seq hf h
theorem l_ofI {ns : List Int} {b : Bool} {k : List D → Bool → Nat → Prop} (h : k (ns.map D.int) true n) : k (ns.map D.int) (fls b (ns.map D.int)) n := by rw [fls_ints]; exact h
/-! walks -/
theorem fg_map {α : Type} {ts : List Nat} {b : XSs} (it : α → List DB) (as : List α) (I : Nat → DL.Fr → Nat → Prop) (h0 : I 0 f n)
    (hstep : ∀ i (hi : i < as.length) f n (W : DL.Fr → Nat → Prop), I i f n → (∀ f' n', I (i + 1) f' n' → W f' n') → ∃ f', bindT f ts (it as[i]) = some f' ∧ evSs cf b ⟨W, K.rt, W⟩ f' n)
    (hend : ∀ f n, I as.length f n → K.nx f n) : forGo (fun vs f n K => ∃ f', bindT f ts vs = some f' ∧ evSs cf b K f' n) (as.map it) K f n := by
  refine forGo_inv I h0 (fun i hi f n W hI hW => ?_) (fun f n h => hend f n (by rw [List.length_map] at h; exact h))
  have hi' : i < as.length := by rw [List.length_map] at hi; exact hi
  rw [List.getElem_map]
  exact hstep i hi' f n W hI hW
theorem fg_rng {ts : List Nat} {b : XSs} {it : Nat → List DB} (m : Nat) (I : Nat → DL.Fr → Nat → Prop) (h0 : I 0 f n)
    (hstep : ∀ i, i < m → ∀ f n (W : DL.Fr → Nat → Prop), I i f n → (∀ f' n', I (i + 1) f' n' → W f' n') → ∃ f', bindT f ts (it i) = some f' ∧ evSs cf b ⟨W, K.rt, W⟩ f' n)
    (hend : ∀ f n, I m f n → K.nx f n) : forGo (fun vs f n K => ∃ f', bindT f ts vs = some f' ∧ evSs cf b K f' n) ((List.range m).map it) K f n := by
  refine fg_map it _ I h0 (fun i hi f n W hI hW => ?_) (fun f n h => hend f n (by rw [List.length_range] at h; exact h))
  rw [List.getElem_range]
  exact hstep i (by rw [List.length_range] at hi; exact hi) f n W hI hW
theorem fg_ints {ts : List Nat} {b : XSs} {it : Int → List DB} (ns : List Int) (I : Nat → DL.Fr → Nat → Prop) (h0 : I 0 f n)
    (hstep : ∀ i, i < ns.length → ∀ f n (W : DL.Fr → Nat → Prop), I i f n → (∀ f' n', I (i + 1) f' n' → W f' n') → ∃ f', bindT f ts (it (gdI ns i)) = some f' ∧ evSs cf b ⟨W, K.rt, W⟩ f' n)
    (hend : ∀ f n, I ns.length f n → K.nx f n) : forGo (fun vs f n K => ∃ f', bindT f ts vs = some f' ∧ evSs cf b K f' n) (ns.map it) K f n := by
  refine fg_map it _ I h0 (fun i hi f n W hI hW => ?_) hend
  rw [← gdI_at hi]
  exact hstep i hi f n W hI hW
end
/-! comprehensions -/
section
variable {turn : List DB → Nat → (Option DB → Nat → Prop) → Prop} {n : Nat} {K : List D → Bool → Nat → Prop}
theorem cg_map {α : Type} {it : α → List DB} (g : α → D) {as : List α} (hl : as.length ≤ 1000000) (h : ∀ a ∈ as, ∀ k : Option DB → Nat → Prop, k (some (g a, true)) n → turn (it a) n k) (hK : K (as.map g) true n) : compGo turn (as.map it) [] true n K :=
  compGo_mapA it g as [] h (sz_le (by simpa using hl)) (by simpa using hK)
theorem cg_ints {α : Type} {it : α → List DB} (g : α → Int) {as : List α} (hl : as.length ≤ 1000000) (h : ∀ a ∈ as, ∀ k : Option DB → Nat → Prop, k (some (.int (g a), true)) n → turn (it a) n k) (hK : K ((as.map g).map D.int) true n) : compGo turn (as.map it) [] true n K :=
  cg_map (fun a => .int (g a)) hl h (by rw [List.map_map] at hK; exact hK)
theorem compGo_filt {α : Type} (it : α → List DB) (g : α → D) (q : α → Bool) : ∀ (as : List α) (acc : List D), (∀ a ∈ as, ∀ k : Option DB → Nat → Prop, (if q a = true then k (some (g a, true)) n else k none n) → turn (it a) n k) → acc.length + as.length ≤ sizeLine →
    K (acc ++ (as.filter q).map g) true n → compGo turn (as.map it) acc true n K
  | [], acc, _, _, hK => by
    unfold compGo
    simpa using hK
  | a :: as, acc, h, hl, hK => by
    rw [List.length_cons] at hl
    rw [List.map_cons]
    unfold compGo
    refine h a List.mem_cons_self _ ?_
    by_cases hq : q a = true
    · rw [if_pos hq]
      refine ⟨by omega, ?_⟩
      refine compGo_filt it g q as _ (fun b hb => h b (List.mem_cons_of_mem _ hb)) (by rw [List.length_append]; simp; omega) ?_
      rw [List.filter_cons, if_pos hq] at hK
      simpa using hK
    · rw [if_neg hq]
      refine compGo_filt it g q as _ (fun b hb => h b (List.mem_cons_of_mem _ hb)) (by omega) ?_
      rw [List.filter_cons, if_neg hq] at hK
      exact hK
theorem cg_filt {α : Type} {it : α → List DB} (g : α → D) (q : α → Bool) {as : List α} (hl : as.length ≤ 1000000) (h : ∀ a ∈ as, ∀ k : Option DB → Nat → Prop, (if q a = true then k (some (g a, true)) n else k none n) → turn (it a) n k) (hK : K ((as.filter q).map g) true n) : compGo turn (as.map it) [] true n K :=
  compGo_filt it g q as [] h (sz_le (by simpa using hl)) (by simpa using hK)
theorem cg_filtI {α : Type} {it : α → List DB} (g : α → Int) (q : α → Bool) {as : List α} (hl : as.length ≤ 1000000) (h : ∀ a ∈ as, ∀ k : Option DB → Nat → Prop, (if q a = true then k (some (.int (g a), true)) n else k none n) → turn (it a) n k) (hK : K (((as.filter q).map g).map D.int) true n) : compGo turn (as.map it) [] true n K :=
  cg_filt (fun a => .int (g a)) q hl h (by rw [List.map_map] at hK; exact hK)
theorem cg_draws {α : Type} {it : α → List DB} {m : Int} {as : List α} (hn : as.length ≤ n) (hl : as.length ≤ 1000000) (h : ∀ a ∈ as, ∀ (n : Nat) (k : Option DB → Nat → Prop), 1 ≤ n → (∀ d : Int, 0 ≤ d → d < m → k (some (.int d, true)) (n - 1)) → turn (it a) n k)
    (hK : ∀ ns : List Int, ns.length = as.length → (∀ i ∈ ns, 0 ≤ i ∧ i < m) → K (ns.map D.int) true (n - as.length)) : compGo turn (as.map it) [] true n K := by
  refine compGo_draws (m := m) (as.map it) [] n (by simpa using hn) (fun x hx n k hn hk => ?_) (sz_le (by simpa using hl)) (fun ns h1 h2 => ?_)
  · obtain ⟨a, ha, rfl⟩ := List.mem_map.mp hx
    exact h a ha n k hn hk
  · have := hK ns (by simpa using h1) h2
    simpa using this
end
theorem q_rng {z : Int} {P : Prop} (h1 : -(2 ^ 62) ≤ z) (h2 : z < 2 ^ 62) (h : P) : -(2 ^ 62) ≤ z ∧ z < 2 ^ 62 ∧ P := ⟨h1, h2, h⟩
theorem q_rng2 {z y : Int} {P : Prop} (h : P) (h1 : -(2 ^ 62) ≤ z ∧ z < 2 ^ 62 ∧ -(2 ^ 62) ≤ y ∧ y < 2 ^ 62) : (-(2 ^ 62) ≤ z ∧ z < 2 ^ 62 ∧ -(2 ^ 62) ≤ y ∧ y < 2 ^ 62) ∧ P := ⟨h1, h⟩
theorem q_szI {ns : List Int} {P : Prop} (e : ns.length < 1000000) (h : P) : (ns.map D.int).length < sizeLine ∧ P := ⟨sz_lt (by rw [List.length_map]; exact e), h⟩
theorem q_szL {m : Nat} {P : Prop} (e : m < 1000000) (h : P) : m < sizeLine ∧ P := ⟨sz_lt e, h⟩
theorem q_szM {m : Nat} {P : Prop} (e : m ≤ 1000000) (h : P) : m ≤ sizeLine ∧ P := ⟨sz_le e, h⟩
theorem q_isnt {d : D} {p q : Prop} {c : Bool} (e : d.isNon = c) (h : if (!c) = true then p else q) : if (!d.isNon) = true then p else q := by rw [e]; exact h
theorem q_isn {d : D} {p q : Prop} {c : Bool} (e : d.isNon = c) (h : if c = true then p else q) : if d.isNon = true then p else q := by rw [e]; exact h
theorem nn_non : D.non.isNon = true := rfl
theorem nn_int (i : Int) : (D.int i).isNon = false := rfl
theorem nn_bl (b : Bool) : (D.bl b).isNon = false := rfl
theorem nn_str (x : Str) : (D.str x).isNon = false := rfl
theorem nn_lst (xs : List D) : (D.lst xs).isNon = false := rfl
theorem nn_tup (xs : List D) : (D.tup xs).isNon = false := rfl
theorem nn_dic (ks : List Key) (xs : List D) : (D.dic ks xs).isNon = false := rfl
theorem nn_seq (t : Bool) (ns : List Int) : (seqD t ns).isNon = false := by cases t <;> rfl
theorem c_is_non {k : Bool → Prop} (h : k true) : cmpD .Is .non .non k := c_is (rfl) h
theorem c_isnt_non {k : Bool → Prop} (h : k false) : cmpD .IsNot .non .non k := c_isnt (c := true) (rfl) h
theorem c_is_int {i : Int} {k : Bool → Prop} (h : k false) : cmpD .Is (.int i) .non k := c_is (rfl) h
theorem c_isnt_int {i : Int} {k : Bool → Prop} (h : k true) : cmpD .IsNot (.int i) .non k := c_isnt (c := false) (rfl) h
theorem c_is_bl {b : Bool} {k : Bool → Prop} (h : k false) : cmpD .Is (.bl b) .non k := c_is (rfl) h
theorem c_isnt_bl {b : Bool} {k : Bool → Prop} (h : k true) : cmpD .IsNot (.bl b) .non k := c_isnt (c := false) (rfl) h
theorem c_is_str {x : Str} {k : Bool → Prop} (h : k false) : cmpD .Is (.str x) .non k := c_is (rfl) h
theorem c_isnt_str {x : Str} {k : Bool → Prop} (h : k true) : cmpD .IsNot (.str x) .non k := c_isnt (c := false) (rfl) h
theorem c_is_lst {xs : List D} {k : Bool → Prop} (h : k false) : cmpD .Is (.lst xs) .non k := c_is (rfl) h
theorem c_isnt_lst {xs : List D} {k : Bool → Prop} (h : k true) : cmpD .IsNot (.lst xs) .non k := c_isnt (c := false) (rfl) h
theorem c_is_tup {xs : List D} {k : Bool → Prop} (h : k false) : cmpD .Is (.tup xs) .non k := c_is (rfl) h
theorem c_isnt_tup {xs : List D} {k : Bool → Prop} (h : k true) : cmpD .IsNot (.tup xs) .non k := c_isnt (c := false) (rfl) h
theorem c_is_dic {ks : List Key} {xs : List D} {k : Bool → Prop} (h : k false) : cmpD .Is (.dic ks xs) .non k := c_is (rfl) h
theorem c_isnt_dic {ks : List Key} {xs : List D} {k : Bool → Prop} (h : k true) : cmpD .IsNot (.dic ks xs) .non k := c_isnt (c := false) (rfl) h
theorem c_is_seq {t : Bool} {ns : List Int} {k : Bool → Prop} (h : k false) : cmpD .Is (seqD t ns) .non k := c_is (by cases t <;> rfl) h
theorem c_isnt_seq {t : Bool} {ns : List Int} {k : Bool → Prop} (h : k true) : cmpD .IsNot (seqD t ns) .non k := c_isnt (c := false) (by cases t <;> rfl) h
theorem c_eqSl {s u : String} {k : Bool → Prop} (h : k (decide (Str.ofString s = Str.ofString u))) : cmpD .Eq (.str (Str.ofString s)) (.str (Str.ofString u)) k := ⟨_, _, rfl, rfl, shStr (ok_of _), shStr (ok_of _), by rw [eqv_str]; exact h⟩
theorem c_neSl {s u : String} {k : Bool → Prop} (h : k (!decide (Str.ofString s = Str.ofString u))) : cmpD .NotEq (.str (Str.ofString s)) (.str (Str.ofString u)) k := ⟨_, _, rfl, rfl, shStr (ok_of _), shStr (ok_of _), by rw [eqv_str]; exact h⟩
theorem s_ofN {z : Nat} {P : Nat → Prop} (h : P z) : P (z : Int).toNat := h
theorem sc_int (i : Int) : (D.int i).scal = true := rfl
theorem sc_lst (xs : List D) : (D.lst xs).scal = false := rfl
theorem sc_tup (xs : List D) : (D.tup xs).scal = false := rfl
theorem sc_strm : D.strm.scal = false := rfl
theorem sc_str (x : Str) : (D.str x).scal = true := rfl
theorem sc_bl (b : Bool) : (D.bl b).scal = true := rfl
theorem sc_non : D.non.scal = true := rfl
section
variable {cf : Nat → List D → Nat → KE → Prop} {ss : XSs} {K : DE} {f f' : DL.Fr} {n : Nat}
theorem s_asgS2 {i : Nat} {e : XE} (hv : view f = f') (h : evE cf e f' n (fun x n1 => x.2 = true ∧ evSs cf ss K (f.set i (.sep x.1)) n1)) : evSs cf (.cons (.asgS i e) ss) K f n := s_asgS (by rw [hv]; exact h)
theorem s_asgV2 {i : Nat} {e : XE} (hv : view f = f') (h : evE cf e f' n (fun x n1 => x.2 = true ∧ evSs cf ss K (f.set i (.v x.1 true)) n1)) : evSs cf (.cons (.asgV i e) ss) K f n := s_asgV (by rw [hv]; exact h)
theorem s_parS2 {i j : Nat} {a b : XE} (hv : view f = f') (h : evE cf a f n (fun x n1 => evE cf b f' n1 (fun y n2 => x.1.scal = true ∧ y.2 = true ∧ evSs cf ss K ((f.set i (.v x.1 true)).set j (.sep y.1)) n2))) : evSs cf (.cons (.parS i j a b) ss) K f n := s_parS (by rw [hv]; exact h)
theorem e_sc2 {a : XE} {k : KE} (hv : view f = f') (h : evE cf a f' n fun x n1 => x.1.scal = true ∧ k (x.1, true) n1) : evE cf (.sc a) f n k := e_sc (by rw [hv]; exact h)
theorem s_lateT {i k : Nat} {xs ys : List D} (hf : f[i]? = some (.sep (.tup xs))) (hx : xs[k]? = some (.lst ys)) (hl : ys.length < 1000000) (hk : k < 2 ^ 62) (h : evSs cf ss K (f.set i .no) n) : evSs cf (.cons (.lateP i k) ss) K f n := by
  show evS cf (.lateP i k) _ f n
  unfold evS
  rw [hf]
  exact ⟨ys, hx, sz_lt hl, hk, h⟩
theorem s_lateL {i k : Nat} {xs ys : List D} (hf : f[i]? = some (.sep (.lst xs))) (hx : xs[k]? = some (.lst ys)) (hl : ys.length < 1000000) (hk : k < 2 ^ 62) (h : evSs cf ss K (f.set i .no) n) : evSs cf (.cons (.lateP i k) ss) K f n := by
  show evS cf (.lateP i k) _ f n
  unfold evS
  rw [hf]
  exact ⟨ys, hx, sz_lt hl, hk, h⟩
end
theorem vw_l (xs : List D) (b : Bool) : viewS (.l xs b) = .v (.lst xs) false := rfl
theorem vw_k (ks : List Key) (xs : List D) (b : Bool) : viewS (.k ks xs b) = .v (.dic ks xs) false := rfl
theorem vw_kt (ks : List (List Key)) (xs : List D) (b : Bool) : viewS (.kt ks xs b) = .v (.dit ks xs) false := rfl
theorem vw_v (d : D) (b : Bool) : viewS (.v d b) = .v d d.scal := rfl
theorem vw_sep (d : D) : viewS (.sep d) = .v d false := rfl
theorem vw_no : viewS .no = .no := rfl
/-! first places -/
theorem find_ixI {xs : List Int} (q : Int → Bool) : ((List.range xs.length).filter fun i => q (gdI xs i)).head? = xs.findIdx? q := by
  rw [List.head?_filter]
  cases h : xs.findIdx? q with
  | none =>
    rw [List.find?_eq_none]
    intro i hi
    have hi' := List.mem_range.mp hi
    have := List.findIdx?_eq_none_iff.mp h (xs[i]) (List.getElem_mem hi')
    rw [gdI_at hi', this]
    simp
  | some i =>
    obtain ⟨h1, h2, h3⟩ := List.findIdx?_eq_some_iff_getElem.mp h
    rw [List.find?_range_eq_some]
    refine ⟨by rw [gdI_at h1]; exact h2, List.mem_range.mpr h1, fun j hj => ?_⟩
    have := h3 j hj
    rw [gdI_at (by omega)]
    simpa using this
theorem loL_ints : ∀ {ns : List Int} {ys : List D}, LoL (ns.map D.int) ys → ys = ns.map D.int
  | [], _, .nil => rfl
  | n :: ns, _, .cons h r => by
    rw [List.map_cons, loL_ints r]
    cases h; rfl
theorem lo_ints {t : Bool} {ns : List Int} {e : D} (h : Lo (seqD t ns) e) : ∃ u, e = seqD u ns := by
  cases t
  · cases h with
    | tl r => rw [loL_ints r]; exact ⟨true, rfl⟩
    | tt r => rw [loL_ints r]; exact ⟨false, rfl⟩
  · cases h with
    | ll r => rw [loL_ints r]; exact ⟨true, rfl⟩
    | lt r => rw [loL_ints r]; exact ⟨false, rfl⟩
/-! numbers -/
theorem emm (p x : Int) : x % p % p = x % p := Int.emod_emod_of_dvd x (Int.dvd_refl p)
theorem emul {p x x' y y' : Int} (h : x % p = x' % p) (g : y % p = y' % p) : (x * y) % p = (x' * y') % p := by rw [Int.mul_emod, h, g, ← Int.mul_emod]
theorem eadd {p x x' y y' : Int} (h : x % p = x' % p) (g : y % p = y' % p) : (x + y) % p = (x' + y') % p := by rw [Int.add_emod, h, g, ← Int.add_emod]
theorem esub {p x x' y y' : Int} (h : x % p = x' % p) (g : y % p = y' % p) : (x - y) % p = (x' - y') % p := by rw [Int.sub_emod, h, g, ← Int.sub_emod]
theorem epow {p x x' : Int} (h : x % p = x' % p) : ∀ n : Nat, x ^ n % p = x' ^ n % p
  | 0 => by rw [Int.pow_zero, Int.pow_zero]
  | n + 1 => by rw [Int.pow_succ, Int.pow_succ]; exact emul (epow h n) h
theorem mod2 {p : Nat} (hp : 2 ≤ p) (z : Int) : 0 ≤ z % (p : Int) ∧ z % (p : Int) < p := ⟨Int.emod_nonneg _ (by omega), Int.emod_lt_of_pos _ (by omega)⟩
end DL

set_option maxHeartbeats 4000000
/-! DPS: the steps as instances. -/
namespace DL
open PySem PySem.Spec PyProof.Rows L2
/-- what a goal comes to -/
class Stp (P : Prop) (Q : outParam Prop) : Prop where
  h : Q → P
class StpS (P : Prop) (Q : outParam Prop) : Prop where
  h : Q → P
class GetS (f : DL.Fr) (i : Nat) (s : outParam Sl) : Prop where
  h : f[i]? = some s
instance get0 {a : Sl} {f : DL.Fr} : GetS (a :: f) 0 a := ⟨rfl⟩
instance getS {a s : Sl} {f : DL.Fr} {i : Nat} [h : GetS f i s] : GetS (a :: f) (i + 1) s := ⟨h.h⟩
def vS (r : DB) : Sl := .v r.1 r.2
class SetS (f : DL.Fr) (i : Nat) (s : Sl) (f' : outParam DL.Fr) : Prop where
  h : f.set i s = f'
instance (priority := low) set0 {a s : Sl} {f : DL.Fr} : SetS (a :: f) 0 s (s :: f) := ⟨rfl⟩
instance (priority := low) setS {a s : Sl} {f f' : DL.Fr} {i : Nat} [h : SetS f i s f'] : SetS (a :: f) (i + 1) s (a :: f') := ⟨by rw [List.set_cons_succ, h.h]⟩
instance setV {f f' : DL.Fr} {i : Nat} {d : D} {b : Bool} [h : SetS f i (.v d b) f'] : SetS f i (vS (d, b)) f' := ⟨h.h⟩
instance setW {f f' : DL.Fr} {i : Nat} {d : D} {b : Bool} [h : SetS f i (.v d b) f'] : SetS f i (.v (d, b).1 (d, b).2) f' := ⟨h.h⟩
class SetSs (f : DL.Fr) (ts : List Nat) (ss : List Sl) (f' : outParam DL.Fr) : Prop where
  h : setSs f ts ss = f'
instance sets0 {f : DL.Fr} : SetSs f [] [] f := ⟨rfl⟩
instance setsS {f f1 f2 : DL.Fr} {t : Nat} {ts : List Nat} {s : Sl} {ss : List Sl} [h : SetS f t s f1] [h2 : SetSs f1 ts ss f2] : SetSs f (t :: ts) (s :: ss) f2 := ⟨by show setSs (f.set t s) ts ss = f2; rw [h.h, h2.h]⟩
section
variable {cf : Nat → List D → Nat → KE → Prop} {ss : XSs} {K : DE} {f f' f1 f2 : DL.Fr} {n : Nat}
instance (priority := high) st_set {i : Nat} {s : Sl} [h : SetS f i s f'] : Stp (evSs cf ss K (f.set i s) n) (evSs cf ss K f' n) := ⟨fun q => by rw [h.h]; exact q⟩
instance (priority := high) st_set2 {i j : Nat} {s t : Sl} [h : SetS f i s f1] [h2 : SetS f1 j t f2] : Stp (evSs cf ss K ((f.set i s).set j t) n) (evSs cf ss K f2 n) := ⟨fun q => by rw [h.h, h2.h]; exact q⟩
instance (priority := high) st_sets {ts : List Nat} {ls : List Sl} [h : SetSs f ts ls f'] : Stp (evSs cf ss K (setSs f ts ls) n) (evSs cf ss K f' n) := ⟨fun q => by rw [h.h]; exact q⟩
instance st_asgE {i : Nat} {e : XE} : StpS (evSs cf (.cons (.asg i (.e e)) ss) K f n) (evE cf e f n (fun r n1 => evSs cf ss K (f.set i (vS r)) n1)) := ⟨fun h => h⟩
instance st_r_e {e : XE} {k : Sl → Nat → Prop} : Stp (evR cf (.e e) f n k) (evE cf e f n (fun r n1 => k (vS r) n1)) := ⟨fun h => h⟩
instance st_par2 {i j : Nat} {r q : XR} : StpS (evSs cf (.cons (.par2 i j r q) ss) K f n) (evR cf r f n (fun a n1 => evR cf q f n1 (fun b n2 => evSs cf ss K ((f.set i a).set j b) n2))) := ⟨fun h => h⟩
instance st_var {k : KE} {i : Nat} {d : D} {b : Bool} [h : GetS f i (.v d b)] : Stp (evE cf (.var i) f n k) (k (d, b) n) := ⟨fun q => e_var h.h q⟩
instance st_ownL {k : KE} {i : Nat} {xs : List D} {b : Bool} [h : GetS f i (.l xs b)] : Stp (evO cf (.own i) f n k) (k (.lst xs, b) n) := ⟨fun q => o_ownL h.h q⟩
instance st_ownK {k : KE} {i : Nat} {ks : List Key} {xs : List D} {b : Bool} [h : GetS f i (.k ks xs b)] : Stp (evO cf (.own i) f n k) (k (.dic ks xs, b) n) := ⟨fun q => o_ownK h.h q⟩
instance st_ownKt {k : KE} {i : Nat} {ks : List (List Key)} {xs : List D} {b : Bool} [h : GetS f i (.kt ks xs b)] : Stp (evO cf (.own i) f n k) (k (.dit ks xs, b) n) := ⟨fun q => o_ownKt h.h q⟩
instance st_app {i : Nat} {e : XE} {xs : List D} {b : Bool} [h : GetS f i (.l xs b)] : StpS (evSs cf (.cons (.app i e) ss) K f n) (evE cf e f n (fun x n1 => xs.length < sizeLine ∧ evSs cf ss K (f.set i (.l (xs ++ [x.1]) (b && x.2))) n1)) := ⟨fun q => s_app h.h q⟩
instance st_ext {i : Nat} {o : XO} {xs : List D} {b : Bool} [h : GetS f i (.l xs b)] : StpS (evSs cf (.cons (.ext i o) ss) K f n) (evO cf o f n (fun x n1 => match x with
      | (.lst ys, c) => xs.length + ys.length ≤ sizeLine ∧ evSs cf ss K (f.set i (.l (xs ++ ys) (b && fls c ys))) n1
      | _ => False)) := ⟨fun q => s_ext h.h q⟩
instance st_setL {i : Nat} {ix e : XE} {xs : List D} {b : Bool} [h : GetS f i (.l xs b)] : StpS (evSs cf (.cons (.setL i ix e) ss) K f n) (evE cf e f n (fun x n1 => evE cf ix f n1 (fun y n2 => match y.1 with
      | .int m => ∃ j, ixN xs.length m = some j ∧ evSs cf ss K (f.set i (.l (xs.set j x.1) (b && x.2))) n2
      | _ => False))) := ⟨fun q => s_setL h.h q⟩
instance st_frzL {i : Nat} {s : XS} {xs : List D} {b : Bool} [h : GetS f i (.l xs b)] [h2 : SetS f i (.v (.lst xs) b) f'] : StpS (evSs cf (.cons (.frz i s) ss) K f n) (evSs cf (.cons s ss) K f' n) := ⟨fun q => s_frz h.h rfl (by rw [h2.h]; exact q)⟩
instance st_frzK {i : Nat} {s : XS} {ks : List Key} {xs : List D} {b : Bool} [h : GetS f i (.k ks xs b)] [h2 : SetS f i (.v (.dic ks xs) b) f'] : StpS (evSs cf (.cons (.frz i s) ss) K f n) (evSs cf (.cons s ss) K f' n) := ⟨fun q => s_frz h.h rfl (by rw [h2.h]; exact q)⟩
instance (priority := high) st_overS {k : List (List DB) → Nat → Prop} {j : Nat} {t : Bool} {ns : List Int} {b : Bool} [h : GetS f j (.v (seqD t ns) b)] : Stp (evI cf (.over (.ex (.var j))) f n k) (k (ns.map fun i => [(.int i, true)]) n) := ⟨fun q => x_overS h.h q⟩
instance (priority := high) st_enumS {k : List (List DB) → Nat → Prop} {j : Nat} {t : Bool} {ns : List Int} {b : Bool} [h : GetS f j (.v (seqD t ns) b)] : Stp (evI cf (.enum (.ex (.var j))) f n k) (k ((List.range ns.length).map fun i => [((.int (i : Nat), true) : DB), (.int (gdI ns i), true)]) n) := ⟨fun q => x_enumS h.h q⟩
instance (priority := high) st_rvsS {k : KE} {j : Nat} {t : Bool} {ns : List Int} {b : Bool} [h : GetS f j (.v (seqD t ns) b)] : Stp (evE cf (.rvs (.ex (.var j))) f n k) (k (seqD t ns.reverse, b) n) := ⟨fun q => e_rvsS h.h q⟩
instance (priority := high) st_ofS {k : List D → Bool → Nat → Prop} {j : Nat} {t : Bool} {ns : List Int} {b : Bool} [h : GetS f j (.v (seqD t ns) b)] : Stp (evL cf (.of (.ex (.var j))) f n k) (k (ns.map D.int) true n) := ⟨fun q => l_ofS h.h q⟩
end
section
variable {cf : Nat → List D → Nat → KE → Prop} {ss : XSs} {K : DE} {f : DL.Fr} {n : Nat}
instance st_s_for {ts : List Nat} {it : XI} {b : XSs} : StpS (evSs cf (.cons (.for ts it b) ss) K f n) (evI cf it f n fun items n1 => forGo (fun vs f n K => ∃ f', bindT f ts vs = some f' ∧ evSs cf b K f' n) items ⟨fun f n => evSs cf ss K f n, K.rt, K.ct⟩ f n1) := ⟨fun h => s_for h⟩
instance st_s_asgL {i : Nat} {l : XL} : StpS (evSs cf (.cons (.asg i (.l l)) ss) K f n) (evL cf l f n (fun xs b n1 => evSs cf ss K (f.set i (.l xs (fls b xs))) n1)) := ⟨fun h => s_asgL h⟩
instance st_s_asgK {i : Nat} : StpS (evSs cf (.cons (.asg i .k) ss) K f n) (evSs cf ss K (f.set i (.k [] [] true)) n) := ⟨fun h => s_asgK h⟩
instance st_s_asgKt {i : Nat} : StpS (evSs cf (.cons (.asg i .kt) ss) K f n) (evSs cf ss K (f.set i (.kt [] [] true)) n) := ⟨fun h => s_asgKt h⟩
instance st_s_par {ts : List Nat} {rs : List XR} : StpS (evSs cf (.cons (.par ts rs) ss) K f n) (evRs cf rs f n (fun ss1 n1 => ss1.length = ts.length ∧ evSs cf ss K (setSs f ts ss1) n1)) := ⟨fun h => s_par h⟩
instance st_s_unp {ts : List Nat} {e : XE} : StpS (evSs cf (.cons (.unp ts e) ss) K f n) (evE cf e f n (fun x n1 => match x with
    | (.tup xs, b) => xs.length = ts.length ∧ ∃ f', setTs f ts (xs.map fun d => (d, fl b d)) = some f' ∧ evSs cf ss K f' n1
    | (.lst xs, b) => xs.length = ts.length ∧ ∃ f', setTs f ts (xs.map fun d => (d, fl b d)) = some f' ∧ evSs cf ss K f' n1
    | _ => False)) := ⟨fun h => s_unp h⟩
instance st_s_expr {e : XE} : StpS (evSs cf (.cons (.expr e) ss) K f n) (evE cf e f n (fun _ n1 => evSs cf ss K f n1)) := ⟨fun h => s_expr h⟩
instance st_s_ret {e : XE} : StpS (evSs cf (.cons (.ret e) ss) K f n) (evE cf e f n K.rt) := ⟨fun h => s_ret h⟩
instance st_s_retN : StpS (evSs cf (.cons .retN ss) K f n) (K.rt (.non, true) n) := ⟨fun h => s_retN h⟩
instance st_s_ife {c : XT} {a b : XSs} : StpS (evSs cf (.cons (.ife c a b) ss) K f n) (evT cf c f n (fun t n1 => if t = true then evSs cf a ⟨fun f n => evSs cf ss K f n, K.rt, K.ct⟩ f n1 else evSs cf b ⟨fun f n => evSs cf ss K f n, K.rt, K.ct⟩ f n1)) := ⟨fun h => s_ife h⟩
instance st_s_nil : StpS (evSs cf .nil K f n) (K.nx f n) := ⟨fun h => s_nil h⟩
instance st_r_l {l : XL} {k : Sl → Nat → Prop} : Stp (evR cf (.l l) f n k) (evL cf l f n (fun xs b n1 => k (.l xs (fls b xs)) n1)) := ⟨fun h => r_l h⟩
instance st_r_k {k : Sl → Nat → Prop} : Stp (evR cf .k f n k) (k (.k [] [] true) n) := ⟨fun h => r_k h⟩
instance st_r_kt {k : Sl → Nat → Prop} : Stp (evR cf .kt f n k) (k (.kt [] [] true) n) := ⟨fun h => r_kt h⟩
instance st_rs_nil {k : List Sl → Nat → Prop} : Stp (evRs cf [] f n k) (k [] n) := ⟨fun h => rs_nil h⟩
instance st_rs_cons {r : XR} {rs : List XR} {k : List Sl → Nat → Prop} : Stp (evRs cf (r :: rs) f n k) (evR cf r f n (fun s n1 => evRs cf rs f n1 (fun ss n2 => k (s :: ss) n2))) := ⟨fun h => rs_cons h⟩
instance st_e_int {k : KE} {i : Int} : Stp (evE cf (.int i) f n k) (k (.int i, true) n) := ⟨fun h => e_int h⟩
instance st_e_str {k : KE} {x : Str} : Stp (evE cf (.str x) f n k) (k (.str x, true) n) := ⟨fun h => e_str h⟩
instance st_e_bl {k : KE} {b : Bool} : Stp (evE cf (.bl b) f n k) (k (.bl b, true) n) := ⟨fun h => e_bl h⟩
instance st_e_non {k : KE} : Stp (evE cf .non f n k) (k (.non, true) n) := ⟨fun h => e_non h⟩
instance st_e_emp {k : KE} : Stp (evE cf .emp f n k) (k (.dic [] [], true) n) := ⟨fun h => e_emp h⟩
instance st_e_bin {k : KE} {op : Operator} {a b : XE} : Stp (evE cf (.bin op a b) f n k) (evE cf a f n fun x n1 => evE cf b f n1 fun y n2 => binD op x y fun r => k r n2) := ⟨fun h => e_bin h⟩
instance st_e_neg {k : KE} {a : XE} : Stp (evE cf (.neg a) f n k) (evE cf a f n fun x n1 => match x.1 with
    | .int i => k (.int (-i), true) n1
    | _ => False) := ⟨fun h => e_neg h⟩
instance st_e_cmp {k : KE} {op : CmpOp} {a b : XO} : Stp (evE cf (.cmp op a b) f n k) (evO cf a f n fun x n1 => evO cf b f n1 fun y n2 => cmpD op x.1 y.1 fun c => k (.bl c, true) n2) := ⟨fun h => e_cmp h⟩
instance st_e_not {k : KE} {a : XE} : Stp (evE cf (.not a) f n k) (evE cf a f n fun x n1 => match x.1 with
    | .bl c => k (.bl (!c), true) n1
    | _ => False) := ⟨fun h => e_not h⟩
instance st_e_and {k : KE} {es : XEs} : Stp (evE cf (.andV es) f n k) (evAnd cf es f n k) := ⟨fun h => e_and h⟩
instance st_e_or {k : KE} {es : XEs} : Stp (evE cf (.orV es) f n k) (evOr cf es f n k) := ⟨fun h => e_or h⟩
instance st_a_one {k : KE} {e : XE} : Stp (evAnd cf (.cons e .nil) f n k) (evE cf e f n k) := ⟨fun h => a_one h⟩
instance st_a_two {k : KE} {e e2 : XE} {es : XEs} : Stp (evAnd cf (.cons e (.cons e2 es)) f n k) (evE cf e f n fun x n1 => match x.1 with
      | .bl c => if c = true then evAnd cf (.cons e2 es) f n1 k else k (.bl false, true) n1
      | _ => False) := ⟨fun h => a_two h⟩
instance st_o_one {k : KE} {e : XE} : Stp (evOr cf (.cons e .nil) f n k) (evE cf e f n k) := ⟨fun h => o_one h⟩
instance st_o_two {k : KE} {e e2 : XE} {es : XEs} : Stp (evOr cf (.cons e (.cons e2 es)) f n k) (evE cf e f n fun x n1 => match x.1 with
      | .bl c => if c = true then k (.bl true, true) n1 else evOr cf (.cons e2 es) f n1 k
      | _ => False) := ⟨fun h => o_two h⟩
instance st_e_ife {k : KE} {c : XT} {a b : XE} : Stp (evE cf (.ife c a b) f n k) (evT cf c f n fun t n1 => if t = true then evE cf a f n1 k else evE cf b f n1 k) := ⟨fun h => e_ife h⟩
instance st_e_idx {k : KE} {a : XO} {i : XE} : Stp (evE cf (.idx a i) f n k) (evO cf a f n fun x n1 => evE cf i f n1 fun y n2 => idxD x y fun r => k r n2) := ⟨fun h => e_idx h⟩
instance st_e_nl {k : KE} {l : XL} : Stp (evE cf (.nl l) f n k) (evL cf l f n fun xs b n1 => k (.lst xs, fls b xs) n1) := ⟨fun h => e_nl h⟩
instance st_e_tup {k : KE} {es : XEs} : Stp (evE cf (.tup es) f n k) (evEs cf es f n fun xs b n1 => xs.length ≤ sizeLine ∧ k (.tup xs, b) n1) := ⟨fun h => e_tup h⟩
instance st_e_call {k : KE} {g : Nat} {es : XEs} : Stp (evE cf (.call g es) f n k) (evEs cf es f n fun xs _ n1 => cf g xs n1 k) := ⟨fun h => e_call h⟩
instance st_e_kcall {k : KE} {g : Nat} {es : XEs} {ks : List Str} {kes : XEs} {ord : List Nat} : Stp (evE cf (.kcall g es ks kes ord) f n k) (evEs cf es f n fun xs _ n1 => evEs cf kes f n1 fun ys _ n2 => ∃ zs, xs.length = es.len ∧ ys.length = ks.length ∧ pick (xs ++ ys) ord = some zs ∧ cf g zs n2 k) := ⟨fun h => e_kcall h⟩
instance st_e_draw {k : KE} {s m : XE} : Stp (evE cf (.draw s m) f n k) (evE cf s f n fun x n1 => evE cf m f n1 fun y n2 => drawD x.1 y.1 n2 k) := ⟨fun h => e_draw h⟩
instance st_e_bi {k : KE} {b : Bi} {a : XO} : Stp (evE cf (.bi b a) f n k) (evO cf a f n fun x n1 => biD b x fun r => k r n1) := ⟨fun h => e_bi h⟩
instance st_e_bi2 {k : KE} {b : Bi} {a c : XE} : Stp (evE cf (.bi2 b a c) f n k) (evE cf a f n fun x n1 => evE cf c f n1 fun y n2 => bi2D b x y fun r => k r n2) := ⟨fun h => e_bi2 h⟩
instance st_e_isi {k : KE} {a : XE} {ts : List Ty} {one : Bool} : Stp (evE cf (.isi a ts one) f n k) (evE cf a f n fun x n1 => ∃ c, isTs x.1 ts = some c ∧ k (.bl c, true) n1) := ⟨fun h => e_isi h⟩
instance st_e_sls {k : KE} {a : XO} {lo hi : XP} : Stp (evE cf (.sls a lo hi) f n k) (evO cf a f n fun x n1 => evP cf lo f n1 fun i n2 => evP cf hi f n2 fun j n3 => match x with
    | (.lst xs, b) => k (.lst (cutD xs i j), b) n3
    | (.tup xs, b) => k (.tup (cutD xs i j), b) n3
    | _ => False) := ⟨fun h => e_sls h⟩
instance st_e_rvs {k : KE} {a : XO} : Stp (evE cf (.rvs a) f n k) (evO cf a f n fun x n1 => match x with
    | (.lst xs, b) => k (.lst xs.reverse, b) n1
    | (.tup xs, b) => k (.tup xs.reverse, b) n1
    | _ => False) := ⟨fun h => e_rvs h⟩
instance st_e_catT {k : KE} {a b : XE} : Stp (evE cf (.catT a b) f n k) (evE cf a f n fun x n1 => evE cf b f n1 fun y n2 => match x, y with
    | (.tup xs, b), (.tup ys, c) => xs ≠ [] ∧ ys ≠ [] ∧ xs.length + ys.length ≤ sizeLine ∧ k (.tup (xs ++ ys), b && c) n2
    | _, _ => False) := ⟨fun h => e_catT h⟩
instance st_o_ex {k : KE} {e : XE} : Stp (evO cf (.ex e) f n k) (evE cf e f n k) := ⟨fun h => o_ex h⟩
instance st_xs_nil {k : List D → Bool → Nat → Prop} : Stp (evEs cf .nil f n k) (k [] true n) := ⟨fun h => xs_nil h⟩
instance st_xs_cons {e : XE} {es : XEs} {k : List D → Bool → Nat → Prop} : Stp (evEs cf (.cons e es) f n k) (evE cf e f n fun x n1 => evEs cf es f n1 fun xs b n2 => k (x.1 :: xs) (x.2 && b) n2) := ⟨fun h => xs_cons h⟩
instance st_p_no {k : Option Int → Nat → Prop} : Stp (evP cf .no f n k) (k none n) := ⟨fun h => p_no h⟩
instance st_p_yes {e : XE} {k : Option Int → Nat → Prop} : Stp (evP cf (.yes e) f n k) (evE cf e f n fun x n1 => match x.1 with
    | .int i => k (some i) n1
    | _ => False) := ⟨fun h => p_yes h⟩
instance st_l_lit {k : List D → Bool → Nat → Prop} {es : XEs} : Stp (evL cf (.lit es) f n k) (evEs cf es f n fun xs b n1 => xs.length ≤ sizeLine ∧ k xs b n1) := ⟨fun h => l_lit h⟩
instance st_l_cat {k : List D → Bool → Nat → Prop} {a b : XO} : Stp (evL cf (.cat a b) f n k) (evO cf a f n fun x n1 => evO cf b f n1 fun y n2 => match x, y with
    | (.lst xs, b), (.lst ys, c) => xs.length + ys.length ≤ sizeLine ∧ k (xs ++ ys) (fls b xs && fls c ys) n2
    | _, _ => False) := ⟨fun h => l_cat h⟩
instance st_l_rep {k : List D → Bool → Nat → Prop} {a : XO} {m : XE} : Stp (evL cf (.rep a m) f n k) (evO cf a f n fun x n1 => evE cf m f n1 fun y n2 => match x, y.1 with
    | (.lst xs, b), .int m => -(2 ^ 63) ≤ m ∧ m < 2 ^ 63 ∧ xs.length * m.toNat ≤ sizeLine ∧ k (List.replicate m.toNat xs).flatten (fls b xs) n2
    | _, _ => False) := ⟨fun h => l_rep h⟩
instance st_l_sl {k : List D → Bool → Nat → Prop} {a : XO} {lo hi : XP} : Stp (evL cf (.sl a lo hi) f n k) (evO cf a f n fun x n1 => evP cf lo f n1 fun i n2 => evP cf hi f n2 fun j n3 => match x with
    | (.lst xs, b) => k (cutD xs i j) (fls b xs) n3
    | _ => False) := ⟨fun h => l_sl h⟩
instance st_l_rev {k : List D → Bool → Nat → Prop} {a : XO} : Stp (evL cf (.rev a) f n k) (evO cf a f n fun x n1 => match x with
    | (.lst xs, b) => k xs.reverse (fls b xs) n1
    | _ => False) := ⟨fun h => l_rev h⟩
instance st_l_of {k : List D → Bool → Nat → Prop} {a : XO} : Stp (evL cf (.of a) f n k) (evO cf a f n fun x n1 => match x with
    | (.lst xs, b) => k xs (fls b xs) n1
    | (.tup xs, b) => k xs (fls b xs) n1
    | (.dic ks _, _) => k (ks.map keyD) true n1
    | (.dit ks _, _) => k (ks.map fun ys => .tup (ys.map keyD)) false n1
    | _ => False) := ⟨fun h => l_of h⟩
instance st_l_seg {k : List D → Bool → Nat → Prop} {g : XSg} : Stp (evL cf (.seg g) f n k) (evSg cf g f n fun xs b n1 => xs.length ≤ sizeLine ∧ k xs b n1) := ⟨fun h => l_seg h⟩
instance st_g_nil {k : List D → Bool → Nat → Prop} : Stp (evSg cf .nil f n k) (k [] true n) := ⟨fun h => g_nil h⟩
instance st_g_one {k : List D → Bool → Nat → Prop} {e : XE} {r : XSg} : Stp (evSg cf (.one e r) f n k) (evE cf e f n fun x n1 => evSg cf r f n1 fun xs b n2 => k (x.1 :: xs) (x.2 && b) n2) := ⟨fun h => g_one h⟩
instance st_g_star {k : List D → Bool → Nat → Prop} {o : XO} {r : XSg} : Stp (evSg cf (.star o r) f n k) (evO cf o f n fun x n1 => match x with
    | (.lst xs, b) => evSg cf r f n1 fun ys c n2 => k (xs ++ ys) (fls b xs && c) n2
    | (.tup xs, b) => evSg cf r f n1 fun ys c n2 => k (xs ++ ys) (fls b xs && c) n2
    | _ => False) := ⟨fun h => g_star h⟩
instance st_t_tv {k : Bool → Nat → Prop} {e : XE} : Stp (evT cf (.tv e) f n k) (evE cf e f n fun x n1 => ∃ c, truD x.1 = some c ∧ k c n1) := ⟨fun h => t_tv h⟩
instance st_t_tc {k : Bool → Nat → Prop} {op : CmpOp} {a b : XO} : Stp (evT cf (.tc op a b) f n k) (evO cf a f n fun x n1 => evO cf b f n1 fun y n2 => cmpD op x.1 y.1 fun c => k c n2) := ⟨fun h => t_tc h⟩
instance st_t_tn {k : Bool → Nat → Prop} {t : XT} : Stp (evT cf (.tn t) f n k) (evT cf t f n fun c n1 => k (!c) n1) := ⟨fun h => t_tn h⟩
instance st_t_tch {k : Bool → Nat → Prop} {op op' : CmpOp} {a b c : XO} : Stp (evT cf (.tch op op' a b c) f n k) (evO cf a f n fun x n1 => evO cf b f n1 fun y n2 => cmpD op x.1 y.1 fun c1 => if c1 = true then evO cf c f n2 fun z n3 => cmpD op' y.1 z.1 fun c2 => k c2 n3 else k false n2) := ⟨fun h => t_tch h⟩
instance st_t_ta {k : Bool → Nat → Prop} {ts : XTs} : Stp (evT cf (.ta ts) f n k) (evTall cf ts f n k) := ⟨fun h => t_ta h⟩
instance st_t_to {k : Bool → Nat → Prop} {ts : XTs} : Stp (evT cf (.to ts) f n k) (evTany cf ts f n k) := ⟨fun h => t_to h⟩
instance st_l_comp {e : XE} {ts own : List Nat} {it : XI} {c : XTs} {k : List D → Bool → Nat → Prop} : Stp (evL cf (.comp e ts own it c) f n k) (evI cf it f n fun items n1 => compGo (fun vs n k => ∃ f', bindT (wipeF f own) ts vs = some f' ∧ evTall cf c f' n fun t n1 => if t = true then evE cf e f' n1 fun r n2 => k (some r) n2 else k none n1) items [] true n1 k) := ⟨fun h => l_comp h⟩
instance st_x_over {k : List (List DB) → Nat → Prop} {o : XO} : Stp (evI cf (.over o) f n k) (evO cf o f n fun x n1 => match x with
    | (.lst xs, b) => k (xs.map fun d => [(d, fl b d)]) n1
    | (.tup xs, b) => k (xs.map fun d => [(d, fl b d)]) n1
    | _ => False) := ⟨fun h => x_over h⟩
instance st_x_rng1 {k : List (List DB) → Nat → Prop} {a : XE} : Stp (evI cf (.rng1 a) f n k) (evE cf a f n fun x n1 => match x.1 with
    | .int j => -(2 ^ 62) ≤ j ∧ j < 2 ^ 62 ∧ k ((List.range j.toNat).map fun i => [(.int (i : Nat), true)]) n1
    | _ => False) := ⟨fun h => x_rng1 h⟩
instance st_x_rng2 {k : List (List DB) → Nat → Prop} {a b : XE} : Stp (evI cf (.rng2 a b) f n k) (evE cf a f n fun x n1 => evE cf b f n1 fun y n2 => match x.1, y.1 with
    | .int i, .int j => (-(2 ^ 62) ≤ i ∧ i < 2 ^ 62 ∧ -(2 ^ 62) ≤ j ∧ j < 2 ^ 62) ∧ k ((List.range (j - i).toNat).map fun (m : Nat) => [(.int (i + m), true)]) n2
    | _, _ => False) := ⟨fun h => x_rng2 h⟩
instance st_x_rng3 {k : List (List DB) → Nat → Prop} {a b : XE} : Stp (evI cf (.rng3 a b) f n k) (evE cf a f n fun x n1 => evE cf b f n1 fun y n2 => match x.1, y.1 with
    | .int i, .int j => (-(2 ^ 62) ≤ i ∧ i < 2 ^ 62 ∧ -(2 ^ 62) ≤ j ∧ j < 2 ^ 62) ∧ k ((List.range (i - j).toNat).map fun (m : Nat) => [(.int (i - m), true)]) n2
    | _, _ => False) := ⟨fun h => x_rng3 h⟩
instance st_x_enum {k : List (List DB) → Nat → Prop} {o : XO} : Stp (evI cf (.enum o) f n k) (evO cf o f n fun x n1 => match x with
    | (.lst xs, b) => k ((List.range xs.length).zipWith (fun i d => [(.int (i : Nat), true), (d, fl b d)]) xs) n1
    | (.tup xs, b) => k ((List.range xs.length).zipWith (fun i d => [(.int (i : Nat), true), (d, fl b d)]) xs) n1
    | _ => False) := ⟨fun h => x_enum h⟩
instance st_x_zip {k : List (List DB) → Nat → Prop} {a b : XO} : Stp (evI cf (.zip a b) f n k) (evO cf a f n fun x n1 => evO cf b f n1 fun y n2 => match x, y with
    | (.lst xs, b), (.lst ys, c) => k (List.zipWith (fun d e => [(d, fl b d), (e, fl c e)]) xs ys) n2
    | (.tup xs, b), (.tup ys, c) => k (List.zipWith (fun d e => [(d, fl b d), (e, fl c e)]) xs ys) n2
    | _, _ => False) := ⟨fun h => x_zip h⟩
instance st_x_dctk {k : List (List DB) → Nat → Prop} {l : XL} : Stp (evI cf (.dctk l) f n k) (evL cf l f n fun xs b n1 => ∃ ks, pairKeys xs = some ks ∧ k ((ks.foldl putKs []).map fun j => [((keyD j, true) : DB)]) n1) := ⟨fun h => x_dctk h⟩
instance st_ta_nil {k : Bool → Nat → Prop} : Stp (evTall cf .nil f n k) (k true n) := ⟨fun h => ta_nil h⟩
instance st_ta_cons {k : Bool → Nat → Prop} {t : XT} {ts : XTs} : Stp (evTall cf (.cons t ts) f n k) (evT cf t f n fun c n1 => if c = true then evTall cf ts f n1 k else k false n1) := ⟨fun h => ta_cons h⟩
instance st_to_nil {k : Bool → Nat → Prop} : Stp (evTany cf .nil f n k) (k false n) := ⟨fun h => to_nil h⟩
instance st_to_cons {k : Bool → Nat → Prop} {t : XT} {ts : XTs} : Stp (evTany cf (.cons t ts) f n k) (evT cf t f n fun c n1 => if c = true then k true n1 else evTany cf ts f n1 k) := ⟨fun h => to_cons h⟩
instance st_d_add {k : DB → Prop} {b : Bool} {b2 : Bool} {i : Int} {j : Int} : Stp (binD .Add (.int i, b) (.int j, b2) k) (k (.int (i + j), true)) := ⟨fun h => d_add h⟩
instance st_d_sub {k : DB → Prop} {b : Bool} {b2 : Bool} {i : Int} {j : Int} : Stp (binD .Sub (.int i, b) (.int j, b2) k) (k (.int (i - j), true)) := ⟨fun h => d_sub h⟩
instance st_c_eqI {kb : Bool → Prop} {i : Int} {j : Int} : Stp (cmpD .Eq (.int i) (.int j) kb) (kb (decide (i = j))) := ⟨fun h => c_eqI h⟩
instance st_c_neI {kb : Bool → Prop} {i : Int} {j : Int} : Stp (cmpD .NotEq (.int i) (.int j) kb) (kb (!decide (i = j))) := ⟨fun h => c_neI h⟩
instance st_c_lt {kb : Bool → Prop} {i : Int} {j : Int} : Stp (cmpD .Lt (.int i) (.int j) kb) (kb (decide (i < j))) := ⟨fun h => c_lt h⟩
instance st_c_le {kb : Bool → Prop} {i : Int} {j : Int} : Stp (cmpD .LtE (.int i) (.int j) kb) (kb (decide (i ≤ j))) := ⟨fun h => c_le h⟩
instance st_c_gt {kb : Bool → Prop} {i : Int} {j : Int} : Stp (cmpD .Gt (.int i) (.int j) kb) (kb (decide (j < i))) := ⟨fun h => c_gt h⟩
instance st_c_ge {kb : Bool → Prop} {i : Int} {j : Int} : Stp (cmpD .GtE (.int i) (.int j) kb) (kb (decide (j ≤ i))) := ⟨fun h => c_ge h⟩
instance st_c_eqB {kb : Bool → Prop} {i j : Bool} : Stp (cmpD .Eq (.bl i) (.bl j) kb) (kb (decide (i = j))) := ⟨fun h => c_eqB h⟩
instance st_c_neB {kb : Bool → Prop} {i j : Bool} : Stp (cmpD .NotEq (.bl i) (.bl j) kb) (kb (!decide (i = j))) := ⟨fun h => c_neB h⟩
instance st_b_lenI {k : DB → Prop} {b : Bool} {ns : List Int} : Stp (biD .len (.lst (ns.map D.int), b) k) (k (.int ns.length, true)) := ⟨fun h => b_lenI h⟩
instance st_b_lenS {k : DB → Prop} {b : Bool} {t : Bool} {ns : List Int} : Stp (biD .len (seqD t ns, b) k) (k (.int ns.length, true)) := ⟨fun h => b_lenS h⟩
instance st_b_lenL {k : DB → Prop} {b : Bool} {xs : List D} : Stp (biD .len (.lst xs, b) k) (k (.int xs.length, true)) := ⟨fun h => b_lenL h⟩
instance st_b_lenT {k : DB → Prop} {b : Bool} {xs : List D} : Stp (biD .len (.tup xs, b) k) (k (.int xs.length, true)) := ⟨fun h => b_lenT h⟩
instance st_b_lenK {k : DB → Prop} {b : Bool} {ks : List Key} {xs : List D} : Stp (biD .len (.dic ks xs, b) k) (k (.int ks.length, true)) := ⟨fun h => b_lenK h⟩
instance st_b_lenKt {k : DB → Prop} {b : Bool} {ks : List (List Key)} {xs : List D} : Stp (biD .len (.dit ks xs, b) k) (k (.int ks.length, true)) := ⟨fun h => b_lenKt h⟩
instance st_b_tupL {k : DB → Prop} {b : Bool} {xs : List D} : Stp (biD .tuple (.lst xs, b) k) (k (.tup xs, fls b xs)) := ⟨fun h => b_tupL h⟩
instance st_b_tupT {k : DB → Prop} {b : Bool} {xs : List D} : Stp (biD .tuple (.tup xs, b) k) (k (.tup xs, b)) := ⟨fun h => b_tupT h⟩
instance st_b_int {k : DB → Prop} {b : Bool} {i : Int} : Stp (biD .int (.int i, b) k) (k (.int i, true)) := ⟨fun h => b_int h⟩
instance st_b_abs {k : DB → Prop} {b : Bool} {i : Int} : Stp (biD .abs (.int i, b) k) (k (.int (if i < 0 then -i else i), true)) := ⟨fun h => b_abs h⟩
instance st_b_sumI {k : DB → Prop} {b : Bool} {ns : List Int} : Stp (biD .sum (.lst (ns.map D.int), b) k) (k (.int ns.sum, true)) := ⟨fun h => b_sumI h⟩
instance st_m_max {k : DB → Prop} {b : Bool} {b2 : Bool} {i : Int} {j : Int} : Stp (bi2D .max (.int i, b) (.int j, b2) k) (k (.int (max i j), true)) := ⟨fun h => m_max h⟩
instance st_m_min {k : DB → Prop} {b : Bool} {b2 : Bool} {i : Int} {j : Int} : Stp (bi2D .min (.int i, b) (.int j, b2) k) (k (.int (min i j), true)) := ⟨fun h => m_min h⟩
instance st_c_eqSl {s u : String} {k : Bool → Prop} : Stp (cmpD .Eq (.str (Str.ofString s)) (.str (Str.ofString u)) k) (k (decide (Str.ofString s = Str.ofString u))) := ⟨fun h => c_eqSl h⟩
instance st_c_neSl {s u : String} {k : Bool → Prop} : Stp (cmpD .NotEq (.str (Str.ofString s)) (.str (Str.ofString u)) k) (k (!decide (Str.ofString s = Str.ofString u))) := ⟨fun h => c_neSl h⟩
instance st_c_is_non {k : Bool → Prop} : Stp (cmpD .Is .non .non k) (k true) := ⟨fun h => c_is_non h⟩
instance st_c_isnt_non {k : Bool → Prop} : Stp (cmpD .IsNot .non .non k) (k false) := ⟨fun h => c_isnt_non h⟩
instance st_c_is_int {i : Int} {k : Bool → Prop} : Stp (cmpD .Is (.int i) .non k) (k false) := ⟨fun h => c_is_int h⟩
instance st_c_isnt_int {i : Int} {k : Bool → Prop} : Stp (cmpD .IsNot (.int i) .non k) (k true) := ⟨fun h => c_isnt_int h⟩
instance st_c_is_bl {b : Bool} {k : Bool → Prop} : Stp (cmpD .Is (.bl b) .non k) (k false) := ⟨fun h => c_is_bl h⟩
instance st_c_isnt_bl {b : Bool} {k : Bool → Prop} : Stp (cmpD .IsNot (.bl b) .non k) (k true) := ⟨fun h => c_isnt_bl h⟩
instance st_c_is_str {x : Str} {k : Bool → Prop} : Stp (cmpD .Is (.str x) .non k) (k false) := ⟨fun h => c_is_str h⟩
instance st_c_isnt_str {x : Str} {k : Bool → Prop} : Stp (cmpD .IsNot (.str x) .non k) (k true) := ⟨fun h => c_isnt_str h⟩
instance st_c_is_lst {xs : List D} {k : Bool → Prop} : Stp (cmpD .Is (.lst xs) .non k) (k false) := ⟨fun h => c_is_lst h⟩
instance st_c_isnt_lst {xs : List D} {k : Bool → Prop} : Stp (cmpD .IsNot (.lst xs) .non k) (k true) := ⟨fun h => c_isnt_lst h⟩
instance st_c_is_tup {xs : List D} {k : Bool → Prop} : Stp (cmpD .Is (.tup xs) .non k) (k false) := ⟨fun h => c_is_tup h⟩
instance st_c_isnt_tup {xs : List D} {k : Bool → Prop} : Stp (cmpD .IsNot (.tup xs) .non k) (k true) := ⟨fun h => c_isnt_tup h⟩
instance st_c_is_dic {ks : List Key} {xs : List D} {k : Bool → Prop} : Stp (cmpD .Is (.dic ks xs) .non k) (k false) := ⟨fun h => c_is_dic h⟩
instance st_c_isnt_dic {ks : List Key} {xs : List D} {k : Bool → Prop} : Stp (cmpD .IsNot (.dic ks xs) .non k) (k true) := ⟨fun h => c_isnt_dic h⟩
instance st_c_is_seq {t : Bool} {ns : List Int} {k : Bool → Prop} : Stp (cmpD .Is (seqD t ns) .non k) (k false) := ⟨fun h => c_is_seq h⟩
instance st_c_isnt_seq {t : Bool} {ns : List Int} {k : Bool → Prop} : Stp (cmpD .IsNot (seqD t ns) .non k) (k true) := ⟨fun h => c_isnt_seq h⟩
instance st_q_tru {c : Bool} {P : Bool → Prop} : Stp (∃ c', truD (.bl c) = some c' ∧ P c') (P c) := ⟨fun h => q_tru h⟩
instance st_q_truI {i : Int} {P : Bool → Prop} : Stp (∃ c', truD (.int i) = some c' ∧ P c') (P (i != 0)) := ⟨fun h => q_truI h⟩
instance st_q_truL {xs : List D} {P : Bool → Prop} : Stp (∃ c', truD (.lst xs) = some c' ∧ P c') (P (!xs.isEmpty)) := ⟨fun h => q_truL h⟩
instance st_q_pos {p q : Prop} : Stp (if true = true then p else q) (p) := ⟨fun h => q_pos h⟩
instance st_q_neg {p q : Prop} : Stp (if false = true then p else q) (q) := ⟨fun h => q_neg h⟩
instance st_q_ntrue {p q : Prop} : Stp (if (!true) = true then p else q) (q) := ⟨fun h => q_ntrue h⟩
instance st_q_nfalse {p q : Prop} : Stp (if (!false) = true then p else q) (p) := ⟨fun h => q_nfalse h⟩
end
end DL

set_option maxHeartbeats 4000000
/-! DPG: data of any kind: what functions over "any object" meet. -/
namespace DL
open PySem PySem.Spec PyProof.Rows L2
local macro_rules | `(tactic| infer_instance) => `(tactic| repeat (first | (with_reducible (first | refine Stp.h ?_ | refine StpS.h ?_ | refine d_mod (by omega) ?_ | refine d_mul (mul60 (by omega) (by omega)) ?_ | refine d_div (divL (by omega) (by omega) (by omega)) ?_ | refine i_LI (by omega) (by omega) ?_ | refine i_SI (by omega) (by omega) ?_ | refine q_sz (leZ (by with_unfolding_all rfl)) ?_ | refine q_rng (by omega) (by omega) ?_ | refine q_rng2 ?_ (by omega) | refine q_szI (by omega) ?_ | refine q_szL (by first | omega | (simp only [List.length_append, List.length_map, List.length_cons, List.length_nil, List.length_range, List.length_take, List.length_drop, List.length_zipWith]; omega)) ?_ | refine q_szM (by first | omega | (simp only [List.length_append, List.length_map, List.length_cons, List.length_nil, List.length_range, List.length_take, List.length_drop, List.length_zipWith]; omega)) ?_ | refine q_rfl (by with_unfolding_all rfl) ?_ | refine q_kc (by with_unfolding_all rfl) (by with_unfolding_all rfl) (by with_unfolding_all rfl) ?_ | refine q_unp (by simp only [setTs, List.map_cons, List.map_nil, List.set_cons_zero, List.set_cons_succ, fl_int]; rfl) ?_ | refine q_bind (by simp only [bindT, setTs, wipeF, List.map_cons, List.map_nil, List.set_cons_zero, List.set_cons_succ, fl_int]; rfl) ?_ | refine s_asgS2 (by simp only [view, List.map_cons, List.map_nil, vw_l, vw_k, vw_kt, vw_v, vw_sep, vw_no, seq_scal, sc_int, sc_lst, sc_tup, sc_strm, sc_str, sc_bl, sc_non]; rfl) ?_ | refine s_asgV2 (by simp only [view, List.map_cons, List.map_nil, vw_l, vw_k, vw_kt, vw_v, vw_sep, vw_no, seq_scal, sc_int, sc_lst, sc_tup, sc_strm, sc_str, sc_bl, sc_non]; rfl) ?_ | refine s_parS2 (by simp only [view, List.map_cons, List.map_nil, vw_l, vw_k, vw_kt, vw_v, vw_sep, vw_no, seq_scal, sc_int, sc_lst, sc_tup, sc_strm, sc_str, sc_bl, sc_non]; rfl) ?_ | refine e_sc2 (by simp only [view, List.map_cons, List.map_nil, vw_l, vw_k, vw_kt, vw_v, vw_sep, vw_no, seq_scal, sc_int, sc_lst, sc_tup, sc_strm, sc_str, sc_bl, sc_non]; rfl) ?_ | refine q_dpos rfl ?_ | refine q_nneg rfl ?_ | refine q_dpos (by omega) ?_ | refine q_dneg (by omega) ?_ | refine q_npos (by omega) ?_ | refine q_nneg (by omega) ?_ | refine q_dneg (by decide +kernel) ?_ | refine q_npos (by decide +kernel) ?_ | dsimp only)) | (refine q_is (by simp only [isTs, isT, D.ty, kit_NoneType_int, kit_NoneType_bool, kit_NoneType_str, kit_NoneType_list, kit_NoneType_tuple, kit_NoneType_dict, kit_bool_int, kit_bool_bool, kit_bool_str, kit_bool_list, kit_bool_tuple, kit_bool_dict, kit_int_int, kit_int_bool, kit_int_str, kit_int_list, kit_int_tuple, kit_int_dict, kit_str_int, kit_str_bool, kit_str_str, kit_str_list, kit_str_tuple, kit_str_dict, kit_list_int, kit_list_bool, kit_list_str, kit_list_list, kit_list_tuple, kit_list_dict, kit_tuple_int, kit_tuple_bool, kit_tuple_str, kit_tuple_list, kit_tuple_tuple, kit_tuple_dict, kit_dict_int, kit_dict_bool, kit_dict_str, kit_dict_list, kit_dict_tuple, kit_dict_dict]; rfl) ?_)))
local macro_rules | `(tactic| nofun) => `(tactic| repeat (first | (with_reducible (first | refine Stp.h ?_ | refine d_mod (by omega) ?_ | refine d_mul (mul60 (by omega) (by omega)) ?_ | refine d_div (divL (by omega) (by omega) (by omega)) ?_ | refine i_LI (by omega) (by omega) ?_ | refine i_SI (by omega) (by omega) ?_ | refine q_sz (leZ (by with_unfolding_all rfl)) ?_ | refine q_rng (by omega) (by omega) ?_ | refine q_rng2 ?_ (by omega) | refine q_szI (by omega) ?_ | refine q_szL (by first | omega | (simp only [List.length_append, List.length_map, List.length_cons, List.length_nil, List.length_range, List.length_take, List.length_drop, List.length_zipWith]; omega)) ?_ | refine q_szM (by first | omega | (simp only [List.length_append, List.length_map, List.length_cons, List.length_nil, List.length_range, List.length_take, List.length_drop, List.length_zipWith]; omega)) ?_ | refine q_rfl (by with_unfolding_all rfl) ?_ | refine q_kc (by with_unfolding_all rfl) (by with_unfolding_all rfl) (by with_unfolding_all rfl) ?_ | refine q_unp (by simp only [setTs, List.map_cons, List.map_nil, List.set_cons_zero, List.set_cons_succ, fl_int]; rfl) ?_ | refine q_bind (by simp only [bindT, setTs, wipeF, List.map_cons, List.map_nil, List.set_cons_zero, List.set_cons_succ, fl_int]; rfl) ?_ | refine s_asgS2 (by simp only [view, List.map_cons, List.map_nil, vw_l, vw_k, vw_kt, vw_v, vw_sep, vw_no, seq_scal, sc_int, sc_lst, sc_tup, sc_strm, sc_str, sc_bl, sc_non]; rfl) ?_ | refine s_asgV2 (by simp only [view, List.map_cons, List.map_nil, vw_l, vw_k, vw_kt, vw_v, vw_sep, vw_no, seq_scal, sc_int, sc_lst, sc_tup, sc_strm, sc_str, sc_bl, sc_non]; rfl) ?_ | refine s_parS2 (by simp only [view, List.map_cons, List.map_nil, vw_l, vw_k, vw_kt, vw_v, vw_sep, vw_no, seq_scal, sc_int, sc_lst, sc_tup, sc_strm, sc_str, sc_bl, sc_non]; rfl) ?_ | refine e_sc2 (by simp only [view, List.map_cons, List.map_nil, vw_l, vw_k, vw_kt, vw_v, vw_sep, vw_no, seq_scal, sc_int, sc_lst, sc_tup, sc_strm, sc_str, sc_bl, sc_non]; rfl) ?_ | refine q_dpos rfl ?_ | refine q_nneg rfl ?_ | refine q_dpos (by omega) ?_ | refine q_dneg (by omega) ?_ | refine q_npos (by omega) ?_ | refine q_nneg (by omega) ?_ | refine q_dneg (by decide +kernel) ?_ | refine q_npos (by decide +kernel) ?_ | dsimp only)) | (refine q_is (by simp only [isTs, isT, D.ty, kit_NoneType_int, kit_NoneType_bool, kit_NoneType_str, kit_NoneType_list, kit_NoneType_tuple, kit_NoneType_dict, kit_bool_int, kit_bool_bool, kit_bool_str, kit_bool_list, kit_bool_tuple, kit_bool_dict, kit_int_int, kit_int_bool, kit_int_str, kit_int_list, kit_int_tuple, kit_int_dict, kit_str_int, kit_str_bool, kit_str_str, kit_str_list, kit_str_tuple, kit_str_dict, kit_list_int, kit_list_bool, kit_list_str, kit_list_list, kit_list_tuple, kit_list_dict, kit_tuple_int, kit_tuple_bool, kit_tuple_str, kit_tuple_list, kit_tuple_tuple, kit_tuple_dict, kit_dict_int, kit_dict_bool, kit_dict_str, kit_dict_list, kit_dict_tuple, kit_dict_dict]; rfl) ?_)))
def isSeq : D → Option (List D)
  | .lst xs => some xs
  | .tup xs => some xs
  | _ => none
def asInt : D → Option Int
  | .int i => some i
  | _ => none
theorem seq_ts {x : D} (hx : x.gd = true) : isTs x [.t "list", .t "tuple"] = some (isSeq x).isSome := by
  cases x with
  | ins _ _ => exact absurd hx (by unfold D.gd D.isEmp D.wf; exact Bool.false_ne_true)
  | strm => exact absurd hx (by unfold D.gd D.isEmp D.wf; exact Bool.false_ne_true)
  | _ => simp [isTs, isT, D.ty, isSeq, kit_NoneType_int, kit_NoneType_bool, kit_NoneType_str, kit_NoneType_list, kit_NoneType_tuple, kit_NoneType_dict, kit_bool_int, kit_bool_bool, kit_bool_str, kit_bool_list, kit_bool_tuple, kit_bool_dict, kit_int_int, kit_int_bool, kit_int_str, kit_int_list, kit_int_tuple, kit_int_dict, kit_str_int, kit_str_bool, kit_str_str, kit_str_list, kit_str_tuple, kit_str_dict, kit_list_int, kit_list_bool, kit_list_str, kit_list_list, kit_list_tuple, kit_list_dict, kit_tuple_int, kit_tuple_bool, kit_tuple_str, kit_tuple_list, kit_tuple_tuple, kit_tuple_dict, kit_dict_int, kit_dict_bool, kit_dict_str, kit_dict_list, kit_dict_tuple, kit_dict_dict]
/-- is_list, is_whole of any object -/
def fIsList : FD := ⟨1, 1, (.cons (.ret (.isi (.var 0) [.t "list", .t "tuple"] false))
  .nil)⟩
def fIsWhole : FD := ⟨1, 1, (.cons (.ret (.andV (.cons (.isi (.var 0) [.t "int"] true) (.cons (.not (.isi (.var 0) [.t "bool"] true)) .nil))))
  .nil)⟩
theorem isList_ok {tb : List FD} {g : Nat} (hg : tb[g]? = some fIsList) (d n : Nat) (k : KE) (x : D) (hx : x.gd = true) (hk : k (.bl (isSeq x).isSome, true) n) : evF tb (d + 1) g [x] n k := by
  rw [evF_at hg]
  cases x with
  | ins _ _ => exact absurd hx (by unfold D.gd D.isEmp D.wf; exact Bool.false_ne_true)
  | strm => exact absurd hx (by unfold D.gd D.isEmp D.wf; exact Bool.false_ne_true)
  | _ => simp [fIsList, startF, evSs, evS, evE, isTs, isT, D.ty, kit_NoneType_int, kit_NoneType_bool, kit_NoneType_str, kit_NoneType_list, kit_NoneType_tuple, kit_NoneType_dict, kit_bool_int, kit_bool_bool, kit_bool_str, kit_bool_list, kit_bool_tuple, kit_bool_dict, kit_int_int, kit_int_bool, kit_int_str, kit_int_list, kit_int_tuple, kit_int_dict, kit_str_int, kit_str_bool, kit_str_str, kit_str_list, kit_str_tuple, kit_str_dict, kit_list_int, kit_list_bool, kit_list_str, kit_list_list, kit_list_tuple, kit_list_dict, kit_tuple_int, kit_tuple_bool, kit_tuple_str, kit_tuple_list, kit_tuple_tuple, kit_tuple_dict, kit_dict_int, kit_dict_bool, kit_dict_str, kit_dict_list, kit_dict_tuple, kit_dict_dict]; exact hk
theorem isWhole_ok {tb : List FD} {g : Nat} (hg : tb[g]? = some fIsWhole) (d n : Nat) (k : KE) (x : D) (hx : x.gd = true) (hk : k (.bl (asInt x).isSome, true) n) : evF tb (d + 1) g [x] n k := by
  rw [evF_at hg]
  cases x with
  | ins _ _ => exact absurd hx (by unfold D.gd D.isEmp D.wf; exact Bool.false_ne_true)
  | strm => exact absurd hx (by unfold D.gd D.isEmp D.wf; exact Bool.false_ne_true)
  | _ => simp [fIsWhole, startF, evSs, evS, evE, evAnd, isTs, isT, D.ty, kit_NoneType_int, kit_NoneType_bool, kit_NoneType_str, kit_NoneType_list, kit_NoneType_tuple, kit_NoneType_dict, kit_bool_int, kit_bool_bool, kit_bool_str, kit_bool_list, kit_bool_tuple, kit_bool_dict, kit_int_int, kit_int_bool, kit_int_str, kit_int_list, kit_int_tuple, kit_int_dict, kit_str_int, kit_str_bool, kit_str_str, kit_str_list, kit_str_tuple, kit_str_dict, kit_list_int, kit_list_bool, kit_list_str, kit_list_list, kit_list_tuple, kit_list_dict, kit_tuple_int, kit_tuple_bool, kit_tuple_str, kit_tuple_list, kit_tuple_tuple, kit_tuple_dict, kit_dict_int, kit_dict_bool, kit_dict_str, kit_dict_list, kit_dict_tuple, kit_dict_dict]; exact hk
def pairOf (x : D) : Option (D × D) := match isSeq x with
  | some [a, b] => some (a, b)
  | _ => none
def intsG (xs : List D) : List Int := xs.map fun x => (asInt x).getD 0
/-! ### a list or tuple of any data, known by its parts -/
def gdD (xs : List D) (i : Nat) : D := (xs[i]?).getD .non
theorem gdD_at {xs : List D} {i : Nat} (h : i < xs.length) : gdD xs i = xs[i] := by
  unfold gdD
  rw [List.getElem?_eq_getElem h]; rfl
theorem gdD_mem {xs : List D} {i : Nat} (h : i < xs.length) : gdD xs i ∈ xs := by rw [gdD_at h]; exact List.getElem_mem h
theorem enumG_items {b : Bool} (xs : List D) : List.zipWith (fun (i : Nat) d => [((.int (i : Nat), true) : DB), (d, fl b d)]) (List.range xs.length) xs = (List.range xs.length).map fun i => [((.int (i : Nat), true) : DB), (gdD xs i, fl b (gdD xs i))] := by
  refine List.ext_getElem (by simp) fun i h1 h2 => ?_
  have hi : i < xs.length := by simpa using h2
  simp [gdD_at hi]
theorem overG_items {b : Bool} (xs : List D) : (xs.map fun d => [((d, fl b d) : DB)]) = (List.range xs.length).map fun i => [((gdD xs i, fl b (gdD xs i)) : DB)] := by
  refine List.ext_getElem (by simp) fun i h1 h2 => ?_
  have hi : i < xs.length := by simpa using h2
  simp [gdD_at hi]
class SeqIs (x : D) (xs : outParam (List D)) : Prop where
  h : isSeq x = some xs
section
variable {cf : Nat → List D → Nat → KE → Prop} {f : DL.Fr} {n : Nat}
instance (priority := high) st_overG {k : List (List DB) → Nat → Prop} {j : Nat} {x : D} {xs : List D} {b : Bool} [h : GetS f j (.v x b)] [q : SeqIs x xs] : Stp (evI cf (.over (.ex (.var j))) f n k) (k ((List.range xs.length).map fun i => [((gdD xs i, fl b (gdD xs i)) : DB)]) n) := ⟨fun z => by
  refine x_over (o_ex (e_var h.h ?_))
  have := q.h
  rw [← overG_items] at z
  cases x with
  | lst ys => cases this; exact z
  | tup ys => cases this; exact z
  | _ => cases this⟩
instance (priority := high) st_enumG {k : List (List DB) → Nat → Prop} {j : Nat} {x : D} {xs : List D} {b : Bool} [h : GetS f j (.v x b)] [q : SeqIs x xs] : Stp (evI cf (.enum (.ex (.var j))) f n k) (k ((List.range xs.length).map fun i => [((.int (i : Nat), true) : DB), (gdD xs i, fl b (gdD xs i))]) n) := ⟨fun z => by
  refine x_enum (o_ex (e_var h.h ?_))
  have := q.h
  rw [← enumG_items] at z
  cases x with
  | lst ys => cases this; exact z
  | tup ys => cases this; exact z
  | _ => cases this⟩
instance (priority := high) st_lenG {x : D} {xs : List D} {b : Bool} {k : DB → Prop} [q : SeqIs x xs] : Stp (biD .len (x, b) k) (k (.int xs.length, true)) := ⟨fun z => by
  have := q.h
  cases x with
  | lst ys => cases this; exact z
  | tup ys => cases this; exact z
  | _ => cases this⟩
instance (priority := high) st_ofG {k : List D → Bool → Nat → Prop} {j : Nat} {x : D} {xs : List D} {b : Bool} [h : GetS f j (.v x b)] [q : SeqIs x xs] : Stp (evL cf (.of (.ex (.var j))) f n k) (k xs (fls b xs) n) := ⟨fun z => by
  refine l_of (o_ex (e_var h.h ?_))
  have := q.h
  cases x with
  | lst ys => cases this; exact z
  | tup ys => cases this; exact z
  | _ => cases this⟩
end
theorem i_G {x : D} {xs : List D} {i : Int} {b b2 : Bool} {k : DB → Prop} (q : isSeq x = some xs) (h0 : 0 ≤ i) (h1 : i < (xs.length : Int)) (h : k (gdD xs i.toNat, fl b (gdD xs i.toNat))) : idxD (x, b) (.int i, b2) k := by
  obtain ⟨m, rfl⟩ : ∃ m : Nat, i = m := ⟨i.toNat, by omega⟩
  have e : atI xs (m : Int) = some (gdD xs m) := by rw [atNat (by omega), List.getElem?_eq_getElem (by omega), gdD_at (by omega)]
  cases x with
  | lst ys => cases q; exact ⟨_, e, h⟩
  | tup ys => cases q; exact ⟨_, e, h⟩
  | _ => cases q
theorem first_ix {xs : List D} {q : D → Bool} {i : Nat} (hi : i < xs.length) (h0 : ∀ j, j < i → q (gdD xs j) = false) (h1 : q (gdD xs i) = true) : xs.findIdx? q = some i := by
  rw [List.findIdx?_eq_some_iff_getElem]
  refine ⟨hi, by rw [← gdD_at hi]; exact h1, fun j hj => ?_⟩
  rw [← gdD_at (by omega), h0 j hj]
  exact Bool.false_ne_true
theorem no_ix {xs : List D} {q : D → Bool} (h0 : ∀ j, j < xs.length → q (gdD xs j) = false) : xs.findIdx? q = none := by
  rw [List.findIdx?_eq_none_iff]
  intro x hx
  obtain ⟨j, hj, rfl⟩ := List.mem_iff_getElem.mp hx
  rw [← gdD_at hj, h0 j hj]
/-- the places of a filter's first -/
theorem head_ix {xs : List D} (q : D → Bool) : ((List.range xs.length).filter fun i => q (gdD xs i)).head? = xs.findIdx? q := by
  rw [List.head?_filter]
  cases e : xs.findIdx? q with
  | none =>
    rw [List.findIdx?_eq_none_iff] at e
    rw [List.find?_eq_none]
    intro i hi
    rw [e _ (gdD_mem (List.mem_range.mp hi))]
    exact Bool.false_ne_true
  | some i =>
    rw [List.findIdx?_eq_some_iff_getElem] at e
    obtain ⟨hi, h1, h0⟩ := e
    rw [List.find?_range_eq_some]
    refine ⟨by rw [gdD_at hi]; exact h1, List.mem_range.mpr hi, fun j hj => ?_⟩
    rw [gdD_at (by omega)]
    have := h0 j hj
    simpa using this
theorem in2 (s u v : Str) : inV (V.str s) [V.str u, V.str v] = (decide (s = u) || decide (s = v)) := by
  unfold inV
  simp only [List.any_cons, List.any_nil, eqV, Bool.or_false]
  congr 1
  · by_cases h : s = u
    · subst h; simp
    · rw [decide_eq_false h, beq_eq_false_iff_ne]; exact fun z => h z.symm
  · by_cases h : s = v
    · subst h; simp
    · rw [decide_eq_false h, beq_eq_false_iff_ne]; exact fun z => h z.symm
def isStr : D → Option Str
  | .str s => some s
  | _ => none
theorem isStr_ts {x : D} (h : x.gd = true) : isTs x [.t "str"] = some (isStr x).isSome := by
  cases x with
  | ins _ _ => exact absurd h (by unfold D.gd D.isEmp D.wf; exact Bool.false_ne_true)
  | strm => exact absurd h (by unfold D.gd D.isEmp D.wf; exact Bool.false_ne_true)
  | _ => simp [isTs, isT, D.ty, isStr, kit_NoneType_int, kit_NoneType_bool, kit_NoneType_str, kit_NoneType_list, kit_NoneType_tuple, kit_NoneType_dict, kit_bool_int, kit_bool_bool, kit_bool_str, kit_bool_list, kit_bool_tuple, kit_bool_dict, kit_int_int, kit_int_bool, kit_int_str, kit_int_list, kit_int_tuple, kit_int_dict, kit_str_int, kit_str_bool, kit_str_str, kit_str_list, kit_str_tuple, kit_str_dict, kit_list_int, kit_list_bool, kit_list_str, kit_list_list, kit_list_tuple, kit_list_dict, kit_tuple_int, kit_tuple_bool, kit_tuple_str, kit_tuple_list, kit_tuple_tuple, kit_tuple_dict, kit_dict_int, kit_dict_bool, kit_dict_str, kit_dict_list, kit_dict_tuple, kit_dict_dict]
theorem ix0 {x a b : D} {c c2 : Bool} {k : DB → Prop} (h : isSeq x = some [a, b]) (hk : ∀ e, k (a, e)) : idxD (x, c) (.int 0, c2) k := by
  cases x with
  | lst xs => cases h; exact ⟨a, rfl, hk _⟩
  | tup xs => cases h; exact ⟨a, rfl, hk _⟩
  | _ => cases h
theorem ix1 {x a b : D} {c c2 : Bool} {k : DB → Prop} (h : isSeq x = some [a, b]) (hk : ∀ e, k (b, e)) : idxD (x, c) (.int 1, c2) k := by
  cases x with
  | lst xs => cases h; exact ⟨b, rfl, hk _⟩
  | tup xs => cases h; exact ⟨b, rfl, hk _⟩
  | _ => cases h
theorem seq_gd {x : D} {xs : List D} (hx : x.gd = true) (h : isSeq x = some xs) : D.wfs xs = true ∧ xs.length ≤ 1000 := by
  cases x with
  | lst ys =>
    cases h
    have hw : D.wf (.lst xs) = true := hx
    unfold D.wf at hw
    obtain ⟨a, b⟩ := Bool.and_eq_true_iff.mp hw
    exact ⟨b, of_decide_eq_true a⟩
  | tup ys =>
    cases h
    have hw : D.wf (.tup xs) = true := hx
    unfold D.wf at hw
    obtain ⟨a, b⟩ := Bool.and_eq_true_iff.mp hw
    exact ⟨b, of_decide_eq_true a⟩
  | _ => cases h
theorem wf_gd {x : D} (h : x.wf = true) : x.gd = true := by unfold D.gd; rw [h, Bool.or_true]
theorem pair_gd {x a b : D} (hx : x.gd = true) (h : isSeq x = some [a, b]) : a.gd = true ∧ b.gd = true := by
  obtain ⟨h1, _⟩ := seq_gd hx h
  exact ⟨wf_gd (wfs_mem h1 List.mem_cons_self), wf_gd (wfs_mem h1 (List.mem_cons_of_mem _ List.mem_cons_self))⟩
theorem str_gd {s : Str} (h : (D.str s).gd = true) : PyData.strOk s = true := by
  have h : D.wf (.str s) = true := h
  unfold D.wf at h
  exact (Bool.and_eq_true_iff.mp (Bool.and_eq_true_iff.mp h).1).1
theorem c_eqS {s u : Str} {k : Bool → Prop} (hs : PyData.strOk s = true) (hu : PyData.strOk u = true) (h : k (decide (s = u))) : cmpD .Eq (.str s) (.str u) k := ⟨_, _, rfl, rfl, shStr hs, shStr hu, by rw [eqv_str]; exact h⟩
theorem c_notin2 {s u v : Str} {k : Bool → Prop} (h : k (!(decide (s = u) || decide (s = v)))) : cmpD .NotIn (.str s) (.tup [.str u, .str v]) k := ⟨rfl, rfl, by
  show k (!inV (V.str s) [V.str u, V.str v])
  rw [in2]; exact h⟩
theorem not_pair {x : D} (h : ∀ a b, isSeq x ≠ some [a, b]) : (match isSeq x with | some xs => decide (xs.length = 2) | none => false) = false ∧ pairOf x = none := by
  unfold pairOf
  cases e : isSeq x with
  | none => exact ⟨rfl, rfl⟩
  | some xs =>
    match xs, e with
    | [], _ => exact ⟨rfl, rfl⟩
    | [_], _ => exact ⟨rfl, rfl⟩
    | [a, b], e => exact absurd e (h a b)
    | _ :: _ :: _ :: _, _ => exact ⟨by simp, rfl⟩
theorem pair_em (x : D) : (∃ a b, isSeq x = some [a, b]) ∨ ∀ a b, isSeq x ≠ some [a, b] := by
  by_cases h : ∃ a b, isSeq x = some [a, b]
  · exact .inl h
  · exact .inr fun a b e => h ⟨a, b, e⟩
theorem seqD_of {b : D} {ps : List Int} (h : isSeq b = some (ps.map D.int)) : ∃ u, b = seqD u ps := by
  cases b with
  | lst xs => cases h; exact ⟨true, rfl⟩
  | tup xs => cases h; exact ⟨false, rfl⟩
  | _ => cases h
theorem lo_seq {x y : D} (h : Lo x y) : (isSeq x = none ∧ isSeq y = none) ∨ ∃ xs ys, isSeq x = some xs ∧ isSeq y = some ys ∧ LoL xs ys := by
  cases h with
  | ll r => exact .inr ⟨_, _, rfl, rfl, r⟩
  | lt r => exact .inr ⟨_, _, rfl, rfl, r⟩
  | tl r => exact .inr ⟨_, _, rfl, rfl, r⟩
  | tt r => exact .inr ⟨_, _, rfl, rfl, r⟩
  | _ => exact .inl ⟨rfl, rfl⟩
theorem lo_int {x y : D} (h : Lo x y) : asInt x = asInt y := by cases h <;> rfl
theorem lo_find (q : D → Bool) (hq : ∀ x y, Lo x y → q x = q y) : ∀ {xs ys : List D}, LoL xs ys → xs.findIdx? q = ys.findIdx? q
  | _, _, .nil => rfl
  | _, _, .cons h r => by rw [List.findIdx?_cons, List.findIdx?_cons, hq _ _ h, lo_find q hq r]
theorem lo_intsG : ∀ {xs ys : List D}, LoL xs ys → intsG xs = intsG ys
  | _, _, .nil => rfl
  | _, _, .cons h r => by
    have := lo_intsG r
    unfold intsG at this ⊢
    rw [List.map_cons, List.map_cons, lo_int h, this]
structure Gd (x : D) : Prop where
  gd : x.gd = true
  dep : x.dep ≤ 6
  wt : x.wt ≤ 100000
  cnt : x.cnt ≤ 5
theorem scals : ∀ (ys : List D), (∀ y ∈ ys, y.wf = true ∧ y.scal = true) → D.wfs ys = true ∧ D.deps ys = 0 ∧ D.wts ys ≤ 112 * ys.length ∧ D.cnts ys = 0
  | [], _ => ⟨rfl, rfl, Nat.le_refl _, rfl⟩
  | y :: ys, h => by
    obtain ⟨a, b, c, e⟩ := scals ys fun z hz => h z (List.mem_cons_of_mem _ hz)
    obtain ⟨w, s⟩ := h y List.mem_cons_self
    have h3 : y.dep = 0 ∧ y.wt = 110 ∧ y.cnt = 0 := by
      cases y with
      | lst _ => cases s
      | tup _ => cases s
      | dic _ _ => cases s
      | dit _ _ => cases s
      | ins _ _ => cases s
      | strm => cases s
      | _ => exact ⟨rfl, rfl, rfl⟩
    unfold D.wfs D.deps D.wts D.cnts
    rw [a, b, e, w, h3.1, h3.2.1, h3.2.2, List.length_cons]
    refine ⟨rfl, rfl, by omega, rfl⟩
def intOk (i : Int) : Prop := (0 ≤ i ∧ i < 10 ^ 9) ∨ i = -1
theorem int_wf2 {i : Int} (h0 : -100 ≤ i) (h1 : i < 10 ^ 9) : (D.int i).wf = true := by
  unfold D.wf
  by_cases h : 0 ≤ i
  · rw [decide_eq_true ⟨h, h1⟩]; rfl
  · rw [decide_eq_true (show -100 ≤ i ∧ i < 0 by omega), Bool.or_true]
theorem int_wf {i : Int} (h : intOk i) : (D.int i).wf = true := int_wf2 (by rcases h with h | h <;> omega) (by rcases h with h | h <;> omega)
theorem str_wf {s : String} (h : PyData.strOk (reprText (Str.ofString s)) = true) (h2 : (reprText (Str.ofString s)).length ≤ 100) : (D.str (Str.ofString s)).wf = true := by
  unfold D.wf
  rw [ok_of, h, decide_eq_true h2]; rfl
theorem gd_of {x : D} (h : x.wf = true) (h1 : x.dep ≤ 6) (h2 : x.wt ≤ 100000) (h3 : x.cnt ≤ 5) : Gd x := ⟨wf_gd h, h1, h2, h3⟩
theorem gd_scal2 {ys : List D} (h : ∀ y ∈ ys, y.wf = true ∧ y.scal = true) (hl : ys.length ≤ 800) : Gd (.tup ys) ∧ Gd (.lst ys) := by
  obtain ⟨a, b, c, e⟩ := scals ys h
  constructor
  · refine gd_of ?_ ?_ ?_ ?_
    · simp [D.wf, a, show ys.length ≤ 1000 by omega]
    · simp [D.dep, b]
    · simp [D.wt]; omega
    · simp [D.cnt, e]
  · refine gd_of ?_ ?_ ?_ ?_
    · simp [D.wf, a, show ys.length ≤ 1000 by omega]
    · simp [D.dep, b]
    · simp [D.wt]; omega
    · simp [D.cnt, e]
theorem gd_scal {y : D} (h : y.wf = true) (s : y.scal = true) : Gd y := by
  obtain ⟨_, b, c, e⟩ := scals [y] fun z hz => by rw [List.mem_singleton.mp hz]; exact ⟨h, s⟩
  simp [D.deps, D.wts, D.cnts] at b c e
  exact gd_of h (by omega) (by omega) (by omega)
theorem gd_few {xs : List D} (h : ∀ x ∈ xs, x.wf = true ∧ x.dep ≤ 5 ∧ x.wt ≤ 20000 ∧ x.cnt ≤ 1) (hl : xs.length ≤ 4) : Gd (.tup xs) ∧ Gd (.lst xs) := by
  have key : ∀ ys : List D, (∀ x ∈ ys, x.wf = true ∧ x.dep ≤ 5 ∧ x.wt ≤ 20000 ∧ x.cnt ≤ 1) → D.wfs ys = true ∧ D.deps ys ≤ 5 ∧ D.wts ys ≤ 20002 * ys.length ∧ D.cnts ys ≤ ys.length := by
    intro ys
    induction ys with
    | nil => intro _; exact ⟨rfl, Nat.zero_le _, Nat.le_refl _, Nat.le_refl _⟩
    | cons y ys ih =>
      intro h
      obtain ⟨a, b, c, e⟩ := ih fun z hz => h z (List.mem_cons_of_mem _ hz)
      obtain ⟨w, s, t, u⟩ := h y List.mem_cons_self
      unfold D.wfs D.deps D.wts D.cnts
      rw [a, w, List.length_cons]
      exact ⟨rfl, by omega, by omega, by omega⟩
  obtain ⟨a, b, c, e⟩ := key xs h
  constructor
  · refine gd_of ?_ ?_ ?_ ?_
    · simp [D.wf, a, show xs.length ≤ 1000 by omega]
    · simp [D.dep]; omega
    · simp [D.wt]; omega
    · simp [D.cnt]; omega
  · refine gd_of ?_ ?_ ?_ ?_
    · simp [D.wf, a, show xs.length ≤ 1000 by omega]
    · simp [D.dep]; omega
    · simp [D.wt]; omega
    · simp [D.cnt]; omega
theorem few_sc {y : D} (h : y.wf = true) (s : y.scal = true) : y.wf = true ∧ y.dep ≤ 5 ∧ y.wt ≤ 20000 ∧ y.cnt ≤ 1 := by
  obtain ⟨_, b, c, e⟩ := scals [y] fun z hz => by rw [List.mem_singleton.mp hz]; exact ⟨h, s⟩
  simp [D.deps, D.wts, D.cnts] at b c e
  exact ⟨h, by omega, by omega, by omega⟩
theorem wfs_cons (x : D) (xs : List D) : D.wfs (x :: xs) = (x.wf && D.wfs xs) := rfl
theorem deps_cons (x : D) (xs : List D) : D.deps (x :: xs) = max x.dep (D.deps xs) := rfl
theorem wts_cons (x : D) (xs : List D) : D.wts (x :: xs) = (x.wt + 2) + D.wts xs := rfl
theorem cnts_cons (x : D) (xs : List D) : D.cnts (x :: xs) = x.cnt + D.cnts xs := rfl
theorem wfs_app : ∀ xs ys : List D, D.wfs (xs ++ ys) = (D.wfs xs && D.wfs ys)
  | [], ys => by cases h : D.wfs ys <;> exact h
  | x :: xs, ys => by rw [List.cons_append, wfs_cons, wfs_cons, wfs_app xs ys, Bool.and_assoc]
theorem deps_app : ∀ xs ys : List D, D.deps (xs ++ ys) = max (D.deps xs) (D.deps ys)
  | [], ys => by rw [List.nil_append, show D.deps [] = 0 from rfl]; omega
  | x :: xs, ys => by rw [List.cons_append, deps_cons, deps_cons, deps_app xs ys]; omega
theorem wts_app : ∀ xs ys : List D, D.wts (xs ++ ys) = D.wts xs + D.wts ys
  | [], ys => by rw [List.nil_append, show D.wts [] = 0 from rfl]; omega
  | x :: xs, ys => by rw [List.cons_append, wts_cons, wts_cons, wts_app xs ys]; omega
theorem cnts_app : ∀ xs ys : List D, D.cnts (xs ++ ys) = D.cnts xs + D.cnts ys
  | [], ys => by rw [List.nil_append, show D.cnts [] = 0 from rfl]; omega
  | x :: xs, ys => by rw [List.cons_append, cnts_cons, cnts_cons, cnts_app xs ys]; omega
/-- plain data about one thing of another kind -/
theorem gd_mid {A B : List D} {o : D} (hA : ∀ y ∈ A, y.wf = true ∧ y.scal = true) (hB : ∀ y ∈ B, y.wf = true ∧ y.scal = true) (ho : o.wf = true ∧ o.dep ≤ 5 ∧ o.wt ≤ 2000 ∧ o.cnt ≤ 4) (hl : A.length + B.length ≤ 700) :
    Gd (.lst (A ++ o :: B)) ∧ Gd (.tup (A ++ o :: B)) := by
  obtain ⟨a1, b1, c1, e1⟩ := scals A hA
  obtain ⟨a2, b2, c2, e2⟩ := scals B hB
  obtain ⟨h1, h2, h3, h4⟩ := ho
  have hw : D.wfs (A ++ o :: B) = true := by rw [wfs_app, wfs_cons, a1, h1, a2]; rfl
  have hd : D.deps (A ++ o :: B) ≤ 5 := by rw [deps_app, deps_cons]; omega
  have ht : D.wts (A ++ o :: B) ≤ 90000 := by rw [wts_app, wts_cons]; omega
  have hc : D.cnts (A ++ o :: B) ≤ 4 := by rw [cnts_app, cnts_cons]; omega
  have hn : (A ++ o :: B).length ≤ 1000 := by rw [List.length_append, List.length_cons]; omega
  constructor
  · exact gd_of (by unfold D.wf; rw [hw, decide_eq_true hn]; rfl) (by unfold D.dep; omega) (by unfold D.wt; omega) (by unfold D.cnt; omega)
  · exact gd_of (by unfold D.wf; rw [hw, decide_eq_true hn]; rfl) (by unfold D.dep; omega) (by unfold D.wt; omega) (by unfold D.cnt; omega)
/-- a good thing's PyData -/
theorem shaped_gd {x : D} (h : x.wf = true) (hd : x.dep ≤ 60) : ∃ p, x.toP = some p ∧ SeqAt.shaped p = true := by
  obtain ⟨p, e, _, _, h2, h3, _⟩ := wf_show x h
  refine ⟨p, e, ?_⟩
  unfold SeqAt.shaped
  rw [h3, decide_eq_true (by omega)]; rfl
theorem c_neP {x y : D} {p q : PyData} {k : Bool → Prop} (e1 : x.toP = some p) (e2 : y.toP = some q) (s1 : SeqAt.shaped p = true) (s2 : SeqAt.shaped q = true) (h : k (!PyData.eqv p q)) : cmpD .NotEq x y k := by
  cases x <;> first | exact ⟨p, q, e1, e2, s1, s2, h⟩ | cases e1
theorem c_eqP {x y : D} {p q : PyData} {k : Bool → Prop} (e1 : x.toP = some p) (e2 : y.toP = some q) (s1 : SeqAt.shaped p = true) (s2 : SeqAt.shaped q = true) (h : k (PyData.eqv p q)) : cmpD .Eq x y k := ⟨p, q, e1, e2, s1, s2, h⟩
theorem gd_emp : Gd (.dic [] []) := ⟨rfl, by decide, by decide, by decide⟩
/-- _law_loose, _law_copied of a good thing -/
theorem loose_gd {tb : List FD} {g : Nat} (hg : tb[g]? = some (fLooseT g)) (m n : Nat) (hm : 7 ≤ m) (k : KE) (x : D) (hx : Gd x) (hn : 5 ≤ n) (hk : ∀ e c n', Lo x e → n - 5 ≤ n' → k (e, c) n') : evF tb m g [.strm, x] n k := by
  have := hx.cnt
  refine loose_ok hg m _ hx.gd (by have := hx.dep; omega) n k (by omega) fun e n' c he _ hn' => ?_
  exact hk e c n' he (by omega)
theorem copied_gd {tb : List FD} {g : Nat} (hg : tb[g]? = some (fCopied g)) (m n : Nat) (hm : 7 ≤ m) (k : KE) (x : D) (hx : Gd x) (hk : k (x, true) n) : evF tb m g [x] n k := copied_ok hg m x hx.gd (by have := hx.dep; omega) n k hk
theorem ints_pl (ns : List Int) (hl : ns.length ≤ 1000) : (D.lst (ns.map D.int)).pl = true ∧ (D.lst (ns.map D.int)).dep = 1 := by
  have : ∀ ns : List Int, D.pls (ns.map D.int) = true ∧ D.deps (ns.map D.int) = 0 := by
    intro ns
    induction ns with
    | nil => exact ⟨rfl, rfl⟩
    | cons i ns ih => rw [List.map_cons]; unfold D.pls D.deps; rw [ih.1, ih.2]; exact ⟨rfl, rfl⟩
  obtain ⟨a, b⟩ := this ns
  unfold D.pl D.dep
  rw [a, b, List.length_map]
  exact ⟨by rw [Bool.and_true]; exact decide_eq_true (sz_le (by omega)), rfl⟩
theorem F_pl {F : D} (h1 : F.pl = true) (h2 : F.dep ≤ 1) : (D.lst [F]).pl = true ∧ (D.lst [F]).dep < 19 ∧ (D.lst [F, F]).pl = true ∧ (D.lst [F, F]).dep < 19 := ⟨by simp [D.pl, D.pls, h1, sizeLine_eq], by simp [D.dep, D.deps]; omega, by simp [D.pl, D.pls, h1, sizeLine_eq], by simp [D.dep, D.deps]; omega⟩
theorem repr_Gd {x : D} (hx : Gd x) : ∃ s : Str, PyData.strOk s = true ∧ ∀ (b : Bool) (k : DB → Prop), k (.str s, true) → biD .repr (x, b) k := repr_gd x hx.gd (by have := hx.dep; omega) (by have := hx.wt; omega)
theorem repr_lo {x e : D} (hx : Gd x) (h : Lo x e) : e.gd = true ∧ ∃ s : Str, PyData.strOk s = true ∧ ∀ (b : Bool) (k : DB → Prop), k (.str s, true) → biD .repr (e, b) k := by
  obtain ⟨eg, ed, ew⟩ := h.gd hx.gd
  exact ⟨eg, repr_gd e eg (by rw [ed]; have := hx.dep; omega) (by rw [ew]; have := hx.wt; omega)⟩
end DL

set_option maxHeartbeats 4000000
/-! DPH: more for plain laws: the mixed list, last places, small things. -/
namespace DL
open PySem PySem.Spec PyProof.Rows L2
local macro_rules | `(tactic| infer_instance) => `(tactic| repeat (first | (with_reducible (first | refine Stp.h ?_ | refine StpS.h ?_ | refine d_mod (by omega) ?_ | refine d_mul (mul60 (by omega) (by omega)) ?_ | refine d_div (divL (by omega) (by omega) (by omega)) ?_ | refine i_LI (by omega) (by omega) ?_ | refine i_SI (by omega) (by omega) ?_ | refine q_sz (leZ (by with_unfolding_all rfl)) ?_ | refine q_rng (by omega) (by omega) ?_ | refine q_rng2 ?_ (by omega) | refine q_szI (by omega) ?_ | refine q_szL (by first | omega | (simp only [List.length_append, List.length_map, List.length_cons, List.length_nil, List.length_range, List.length_take, List.length_drop, List.length_zipWith]; omega)) ?_ | refine q_szM (by first | omega | (simp only [List.length_append, List.length_map, List.length_cons, List.length_nil, List.length_range, List.length_take, List.length_drop, List.length_zipWith]; omega)) ?_ | refine q_rfl (by with_unfolding_all rfl) ?_ | refine q_kc (by with_unfolding_all rfl) (by with_unfolding_all rfl) (by with_unfolding_all rfl) ?_ | refine q_unp (by simp only [setTs, List.map_cons, List.map_nil, List.set_cons_zero, List.set_cons_succ, fl_int]; rfl) ?_ | refine q_bind (by simp only [bindT, setTs, wipeF, List.map_cons, List.map_nil, List.set_cons_zero, List.set_cons_succ, fl_int]; rfl) ?_ | refine s_asgS2 (by simp only [view, List.map_cons, List.map_nil, vw_l, vw_k, vw_kt, vw_v, vw_sep, vw_no, seq_scal, sc_int, sc_lst, sc_tup, sc_strm, sc_str, sc_bl, sc_non]; rfl) ?_ | refine s_asgV2 (by simp only [view, List.map_cons, List.map_nil, vw_l, vw_k, vw_kt, vw_v, vw_sep, vw_no, seq_scal, sc_int, sc_lst, sc_tup, sc_strm, sc_str, sc_bl, sc_non]; rfl) ?_ | refine s_parS2 (by simp only [view, List.map_cons, List.map_nil, vw_l, vw_k, vw_kt, vw_v, vw_sep, vw_no, seq_scal, sc_int, sc_lst, sc_tup, sc_strm, sc_str, sc_bl, sc_non]; rfl) ?_ | refine e_sc2 (by simp only [view, List.map_cons, List.map_nil, vw_l, vw_k, vw_kt, vw_v, vw_sep, vw_no, seq_scal, sc_int, sc_lst, sc_tup, sc_strm, sc_str, sc_bl, sc_non]; rfl) ?_ | refine q_dpos rfl ?_ | refine q_nneg rfl ?_ | refine q_dpos (by omega) ?_ | refine q_dneg (by omega) ?_ | refine q_npos (by omega) ?_ | refine q_nneg (by omega) ?_ | refine q_dneg (by decide +kernel) ?_ | refine q_npos (by decide +kernel) ?_ | dsimp only)) | (refine q_is (by simp only [isTs, isT, D.ty, kit_NoneType_int, kit_NoneType_bool, kit_NoneType_str, kit_NoneType_list, kit_NoneType_tuple, kit_NoneType_dict, kit_bool_int, kit_bool_bool, kit_bool_str, kit_bool_list, kit_bool_tuple, kit_bool_dict, kit_int_int, kit_int_bool, kit_int_str, kit_int_list, kit_int_tuple, kit_int_dict, kit_str_int, kit_str_bool, kit_str_str, kit_str_list, kit_str_tuple, kit_str_dict, kit_list_int, kit_list_bool, kit_list_str, kit_list_list, kit_list_tuple, kit_list_dict, kit_tuple_int, kit_tuple_bool, kit_tuple_str, kit_tuple_list, kit_tuple_tuple, kit_tuple_dict, kit_dict_int, kit_dict_bool, kit_dict_str, kit_dict_list, kit_dict_tuple, kit_dict_dict]; rfl) ?_)))
local macro_rules | `(tactic| nofun) => `(tactic| repeat (first | (with_reducible (first | refine Stp.h ?_ | refine d_mod (by omega) ?_ | refine d_mul (mul60 (by omega) (by omega)) ?_ | refine d_div (divL (by omega) (by omega) (by omega)) ?_ | refine i_LI (by omega) (by omega) ?_ | refine i_SI (by omega) (by omega) ?_ | refine q_sz (leZ (by with_unfolding_all rfl)) ?_ | refine q_rng (by omega) (by omega) ?_ | refine q_rng2 ?_ (by omega) | refine q_szI (by omega) ?_ | refine q_szL (by first | omega | (simp only [List.length_append, List.length_map, List.length_cons, List.length_nil, List.length_range, List.length_take, List.length_drop, List.length_zipWith]; omega)) ?_ | refine q_szM (by first | omega | (simp only [List.length_append, List.length_map, List.length_cons, List.length_nil, List.length_range, List.length_take, List.length_drop, List.length_zipWith]; omega)) ?_ | refine q_rfl (by with_unfolding_all rfl) ?_ | refine q_kc (by with_unfolding_all rfl) (by with_unfolding_all rfl) (by with_unfolding_all rfl) ?_ | refine q_unp (by simp only [setTs, List.map_cons, List.map_nil, List.set_cons_zero, List.set_cons_succ, fl_int]; rfl) ?_ | refine q_bind (by simp only [bindT, setTs, wipeF, List.map_cons, List.map_nil, List.set_cons_zero, List.set_cons_succ, fl_int]; rfl) ?_ | refine s_asgS2 (by simp only [view, List.map_cons, List.map_nil, vw_l, vw_k, vw_kt, vw_v, vw_sep, vw_no, seq_scal, sc_int, sc_lst, sc_tup, sc_strm, sc_str, sc_bl, sc_non]; rfl) ?_ | refine s_asgV2 (by simp only [view, List.map_cons, List.map_nil, vw_l, vw_k, vw_kt, vw_v, vw_sep, vw_no, seq_scal, sc_int, sc_lst, sc_tup, sc_strm, sc_str, sc_bl, sc_non]; rfl) ?_ | refine s_parS2 (by simp only [view, List.map_cons, List.map_nil, vw_l, vw_k, vw_kt, vw_v, vw_sep, vw_no, seq_scal, sc_int, sc_lst, sc_tup, sc_strm, sc_str, sc_bl, sc_non]; rfl) ?_ | refine e_sc2 (by simp only [view, List.map_cons, List.map_nil, vw_l, vw_k, vw_kt, vw_v, vw_sep, vw_no, seq_scal, sc_int, sc_lst, sc_tup, sc_strm, sc_str, sc_bl, sc_non]; rfl) ?_ | refine q_dpos rfl ?_ | refine q_nneg rfl ?_ | refine q_dpos (by omega) ?_ | refine q_dneg (by omega) ?_ | refine q_npos (by omega) ?_ | refine q_nneg (by omega) ?_ | refine q_dneg (by decide +kernel) ?_ | refine q_npos (by decide +kernel) ?_ | dsimp only)) | (refine q_is (by simp only [isTs, isT, D.ty, kit_NoneType_int, kit_NoneType_bool, kit_NoneType_str, kit_NoneType_list, kit_NoneType_tuple, kit_NoneType_dict, kit_bool_int, kit_bool_bool, kit_bool_str, kit_bool_list, kit_bool_tuple, kit_bool_dict, kit_int_int, kit_int_bool, kit_int_str, kit_int_list, kit_int_tuple, kit_int_dict, kit_str_int, kit_str_bool, kit_str_str, kit_str_list, kit_str_tuple, kit_str_dict, kit_list_int, kit_list_bool, kit_list_str, kit_list_list, kit_list_tuple, kit_list_dict, kit_tuple_int, kit_tuple_bool, kit_tuple_str, kit_tuple_list, kit_tuple_tuple, kit_tuple_dict, kit_dict_int, kit_dict_bool, kit_dict_str, kit_dict_list, kit_dict_tuple, kit_dict_dict]; rfl) ?_)))
section
variable {cf : Nat → List D → Nat → KE → Prop} {ss : XSs} {K : DE} {f : DL.Fr} {n : Nat}
theorem s_appP {i j : Nat} {e : XE} {xs ys : List D} {b c : Bool} (hf : f[i]? = some (.l xs b)) (hg : f[j]? = some (.l ys c)) (h : evE cf e f n (fun x n1 => match x.1 with
      | .int m => ∃ t d, ixN ys.length m = some t ∧ ys[t]? = some d ∧ xs.length < sizeLine ∧ ys.length ≤ sizeLine ∧ evSs cf ss K ((f.set j (.l (ys.eraseIdx t) c)).set i (.l (xs ++ [d]) (b && fl c d))) n1
      | _ => False)) : evSs cf (.cons (.appP i j e) ss) K f n := by
  show evS cf (.appP i j e) _ f n
  unfold evS
  rw [hf, hg]
  exact h
end
/-! ### short lists and tuples -/
theorem at0 {x : D} {xs : List D} : atI (x :: xs) 0 = some x := by
  rw [show (0 : Int) = ((0 : Nat) : Int) from rfl, atNat (by rw [List.length_cons]; omega)]; rfl
theorem at1 {x y : D} {xs : List D} : atI (x :: y :: xs) 1 = some y := by
  rw [show (1 : Int) = ((1 : Nat) : Int) from rfl, atNat (by rw [List.length_cons, List.length_cons]; omega)]; rfl
section
variable {x y : D} {xs : List D} {b b2 : Bool} {i j : Int} {k : DB → Prop}
instance (priority := low) st_t0 : Stp (idxD (.tup (x :: xs), b) (.int 0, b2) k) (k (x, fl b x)) := ⟨fun h => ⟨x, at0, h⟩⟩
instance (priority := low) st_t1 : Stp (idxD (.tup (x :: y :: xs), b) (.int 1, b2) k) (k (y, fl b y)) := ⟨fun h => ⟨y, at1, h⟩⟩
instance (priority := low) st_l0 : Stp (idxD (.lst (x :: xs), b) (.int 0, b2) k) (k (x, fl b x)) := ⟨fun h => ⟨x, at0, h⟩⟩
instance (priority := low) st_l1 : Stp (idxD (.lst (x :: y :: xs), b) (.int 1, b2) k) (k (y, fl b y)) := ⟨fun h => ⟨y, at1, h⟩⟩
instance st_t0I : Stp (idxD (.tup (.int i :: xs), b) (.int 0, b2) k) (k (.int i, true)) := ⟨fun h => ⟨.int i, at0, by rw [fl_int]; exact h⟩⟩
instance st_t1I : Stp (idxD (.tup (x :: .int j :: xs), b) (.int 1, b2) k) (k (.int j, true)) := ⟨fun h => ⟨.int j, at1, by rw [fl_int]; exact h⟩⟩
instance st_l0I : Stp (idxD (.lst (.int i :: xs), b) (.int 0, b2) k) (k (.int i, true)) := ⟨fun h => ⟨.int i, at0, by rw [fl_int]; exact h⟩⟩
instance st_l1I : Stp (idxD (.lst (x :: .int j :: xs), b) (.int 1, b2) k) (k (.int j, true)) := ⟨fun h => ⟨.int j, at1, by rw [fl_int]; exact h⟩⟩
end
section
variable {turn : List DB → DL.Fr → Nat → DE → Prop} {K : DE} {f : DL.Fr} {n : Nat}
instance st_fg_cons {α : Type} {it : α → List DB} {a : α} {as : List α} : Stp (forGo turn ((a :: as).map it) K f n) (turn (it a) f n ⟨fun f n => forGo turn (as.map it) K f n, K.rt, fun f n => forGo turn (as.map it) K f n⟩) := ⟨fun h => h⟩
instance st_fg_nil {α : Type} {it : α → List DB} : Stp (forGo turn (([] : List α).map it) K f n) (K.nx f n) := ⟨fun h => h⟩
end
theorem eraseP {α : Type} : ∀ (ys : List α) (t : Nat) (h : t < ys.length), ([ys[t]] ++ ys.eraseIdx t).Perm ys
  | y :: ys, 0, _ => List.Perm.refl _
  | y :: ys, t + 1, h => (List.Perm.swap y (ys[t]'(by simpa using h)) (ys.eraseIdx t)).trans ((eraseP ys t (by simpa using h)).cons y)
/-- _law_mixed -/
def fMixed : FD := ⟨2, 5, (.cons (.par2 3 4 (.l (.of (.ex (.var 1)))) (.l (.lit .nil)))
  (.cons (.for [2] (.rng1 (.bi .len (.own 3)))
  (.cons (.appP 4 3 (.draw (.var 0) (.bi .len (.own 3))))
  .nil))
  (.cons (.frz 4 (.ret (.var 4)))
  .nil)))⟩
theorem mixed_ok {tb : List FD} {g : Nat} (hg : tb[g]? = some fMixed) (d n : Nat) (k : KE) (xs : List D) (hl : xs.length ≤ 100000) (hn : xs.length ≤ n)
    (hk : ∀ ys c, ys.Perm xs → k (.lst ys, c) (n - xs.length)) : evF tb (d + 1) g [.strm, .lst xs] n k := by
  refine f_go (F := fMixed) hg rfl ?_
  simp only [fMixed, startF, List.map_cons, List.map_nil, List.length_cons, List.length_nil, Nat.reduceAdd, Nat.reduceSub, List.replicate_succ, List.replicate_zero, List.cons_append, List.nil_append, seq_scal, sc_int, sc_lst, sc_tup, sc_strm, sc_str, sc_bl, sc_non]
  infer_instance
  refine fg_rng xs.length (fun i f n' => i ≤ xs.length ∧ n' = n - i ∧ ∃ zs ys b c x2, zs.length = i ∧ ys.length = xs.length - i ∧ (zs ++ ys).Perm xs ∧ f = [.v .strm false, .v (.lst xs) false, x2, .l ys c, .l zs b]) ⟨by omega, by omega, [], xs, _, _, _, rfl, by omega, List.Perm.refl _, rfl⟩ ?_ ?_
  · rintro i hi f n' W ⟨hi1, rfl, zs, ys, b, c, x2, hz, hy, hp, rfl⟩ hW
    refine ⟨_, rfl, ?_⟩
    dsimp only [List.set_cons_zero, List.set_cons_succ]
    refine s_appP rfl rfl ?_
    infer_instance
    refine drawD_ok (by omega) (by omega) (by omega) fun j j0 j1 => ?_
    obtain ⟨t, rfl⟩ : ∃ t : Nat, j = t := ⟨j.toNat, by omega⟩
    have ht : t < ys.length := by omega
    refine ⟨t, ys[t], ?_, List.getElem?_eq_getElem ht, sz_lt (by omega), sz_le (by omega), ?_⟩
    · unfold ixN
      rw [if_pos (by omega), if_pos (by omega)]
      congr 1
    dsimp only [List.set_cons_zero, List.set_cons_succ]
    refine hW _ _ ⟨by omega, by omega, zs ++ [ys[t]], ys.eraseIdx t, _, _, _, by rw [List.length_append, hz]; rfl, by rw [List.length_eraseIdx_of_lt ht]; omega, ?_, rfl⟩
    rw [List.append_assoc]
    refine List.Perm.trans ?_ hp
    refine List.Perm.append_left _ ?_
    exact eraseP ys t ht
  · rintro f n' ⟨hi1, rfl, zs, ys, b, c, x2, hz, hy, hp, rfl⟩
    have : ys = [] := List.eq_nil_of_length_eq_zero (by omega)
    subst this
    rw [List.append_nil] at hp
    infer_instance
    exact hk _ _ hp
theorem i_m1 {xs : List Int} {v : Int} {b c : Bool} {k : DB → Prop} (h : 1 ≤ xs.length) (hv : gdI xs (xs.length - 1) = v) (hk : k (.int v, true)) : idxD (.lst (xs.map D.int), b) (.int (-1), c) k := by
  refine ⟨.int v, ?_, by rw [fl_int]; exact hk⟩
  have := atNeg (xs := xs.map D.int) (j := 1) (by omega) (by rw [List.length_map]; exact h)
  rw [show (-1 : Int) = -((1 : Nat) : Int) from rfl, this, List.length_map, List.getElem?_map, List.getElem?_eq_getElem (by omega), ← gdI_at (by omega), hv]
  rfl
theorem i_m2 {xs : List Int} {v : Int} {b c : Bool} {k : DB → Prop} (h : 2 ≤ xs.length) (hv : gdI xs (xs.length - 2) = v) (hk : k (.int v, true)) : idxD (.lst (xs.map D.int), b) (.int (-2), c) k := by
  refine ⟨.int v, ?_, by rw [fl_int]; exact hk⟩
  have := atNeg (xs := xs.map D.int) (j := 2) (by omega) (by rw [List.length_map]; exact h)
  rw [show (-2 : Int) = -((2 : Nat) : Int) from rfl, this, List.length_map, List.getElem?_map, List.getElem?_eq_getElem (by omega), ← gdI_at (by omega), hv]
  rfl
theorem i_0 {i : Int} {is : List Int} {b b2 : Bool} {k : DB → Prop} (h : k (.int i, true)) : idxD (.lst ((i :: is).map D.int), b) (.int 0, b2) k := i_LI (by omega) (by rw [List.length_cons]; omega) h
theorem intsOf_map : ∀ ns : List Int, intsOf (ns.map D.int) = some ns
  | [] => rfl
  | n :: ns => by
    rw [List.map_cons]
    unfold intsOf
    rw [intsOf_map ns]; rfl
theorem lo_all {p : D → Prop} (hp : ∀ x y, Lo x y → p x → p y) : ∀ {xs ys : List D}, LoL xs ys → (∀ x ∈ xs, p x) → ∀ y ∈ ys, p y
  | _, _, .nil, _, y, hy => by cases hy
  | _, _, .cons h r, q, y, hy => by
    rcases List.mem_cons.mp hy with z | z
    · rw [z]; exact hp _ _ h (q _ List.mem_cons_self)
    · exact lo_all hp r (fun x hx => q x (List.mem_cons_of_mem _ hx)) y z
theorem mulB {x y p q : Nat} (h : x ≤ 2 ^ p) (g : y ≤ 2 ^ q) : x * y ≤ 2 ^ (p + q) := by rw [Nat.pow_add]; exact Nat.mul_le_mul h g
theorem nmul {x y : Int} {a b : Nat} (hx : x.natAbs ≤ a) (hy : y.natAbs ≤ b) : (x * y).natAbs ≤ a * b := by rw [Int.natAbs_mul]; exact Nat.mul_le_mul hx hy
theorem zipW_map {α β γ δ : Type} (f : β → γ → δ) (p : α → β) (q : α → γ) : ∀ as : List α, List.zipWith f (as.map p) (as.map q) = as.map fun a => f (p a) (q a)
  | [] => rfl
  | a :: as => by rw [List.map_cons, List.map_cons, List.zipWith_cons_cons, zipW_map f p q as]; rfl
theorem bls_true {α : Type} : ∀ as : List α, blsOf (as.map fun _ => D.bl true) = some (as.map fun _ => true)
  | [] => rfl
  | a :: as => by
    rw [List.map_cons]
    unfold blsOf
    rw [bls_true as]; rfl
theorem bls_map {α : Type} (q : α → Bool) : ∀ as : List α, blsOf (as.map fun a => D.bl (q a)) = some (as.map q)
  | [] => rfl
  | a :: as => by
    rw [List.map_cons]
    unfold blsOf
    rw [bls_map q as]; rfl
/-- _law_pick of numbers and others -/
def fPickT : FD := ⟨2, 2, (.cons (.ret (.idx (.ex (.var 1)) (.draw (.var 0) (.bi .len (.ex (.var 1))))))
  .nil)⟩
theorem pick_ints {tb : List FD} {g : Nat} (hg : tb[g]? = some fPickT) (d n : Nat) (k : KE) (xs : List Int) (h0 : 0 < xs.length) (h1 : xs.length < 2 ^ 20) (hn : 1 ≤ n) (hk : ∀ x ∈ xs, k (.int x, true) (n - 1)) : evF tb (d + 1) g [.strm, .lst (xs.map D.int)] n k := by
  refine f_go (F := fPickT) hg rfl ?_
  simp only [fPickT, startF, List.map_cons, List.map_nil, List.length_cons, List.length_nil, Nat.reduceAdd, Nat.reduceSub, List.replicate_succ, List.replicate_zero, List.cons_append, List.nil_append, seq_scal, sc_int, sc_lst, sc_tup, sc_strm, sc_str, sc_bl, sc_non]
  infer_instance
  refine drawD_ok (by omega) (by omega) hn fun j j0 j1 => ?_
  refine i_LI j0 (by omega) ?_
  exact hk _ (by rw [gdI_at (by omega)]; exact List.getElem_mem _)
end DL

set_option maxHeartbeats 4000000
/-! the functions of k62 in the layer's form -/
namespace Lk62
open PySem PySem.Spec PyProof.Rows L2 DL
abbrev prog : Program := PySem.Challenge.pw_nextbylast_k62_whole_main_lengths_by_hal
def top (i : Nat) : Stmt := prog.main.body.getD i (.Pass ⟨0, 0, 0, 0⟩)
def mth (i j : Nat) : Stmt := (clsBody (top i)).getD j (.Pass ⟨0, 0, 0, 0⟩)
def CT : CTb := []
/-- is_list -/
def F0 : FD := ⟨1, 1, (.cons (.ret (.isi (.var 0) [.t "list", .t "tuple"] false))
  .nil)⟩
/-- is_whole -/
def F1 : FD := ⟨1, 1, (.cons (.ret (.andV (.cons (.isi (.var 0) [.t "int"] true) (.cons (.not (.isi (.var 0) [.t "bool"] true)) .nil))))
  .nil)⟩
/-- is_power -/
def F2 : FD := ⟨1, 1, (.cons (.whl (.tc .Eq (.ex (.bin .Mod (.var 0) (.int 2))) (.ex (.int 0)))
  (.cons (.asg 0 (.e (.bin .FloorDiv (.var 0) (.int 2))))
  .nil))
  (.cons (.ret (.cmp .Eq (.ex (.var 0)) (.ex (.int 1))))
  .nil))⟩
/-- check_twos -/
def F3 : FD := ⟨1, 2, (.cons (.ife (.to (.cons (.tn (.tv (.call 0 (.cons (.var 0) .nil)))) (.cons (.tc .Eq (.ex (.bi .len (.ex (.var 0)))) (.ex (.int 0))) (.cons (.tn (.tv (.call 2 (.cons (.bi .len (.ex (.var 0))) .nil)))) .nil))))
  .nev
  .nil)
  (.cons (.ife (.tn (.tv (.bi .all (.ex (.nl (.comp (.andV (.cons (.call 1 (.cons (.var 1) .nil)) (.cons (.cmp .In (.ex (.var 1)) (.ex (.tup (.cons (.int 0) (.cons (.int 1) .nil))))) .nil))) [1] [1] (.over (.ex (.var 0))) .nil))))))
  .nev
  .nil)
  .nil))⟩
/-- steps_of -/
def F4 : FD := ⟨1, 8, (.cons (.par2 1 2 (.l (.lit .nil)) (.e (.nl (.of (.ex (.var 0))))))
  (.cons (.whl (.tc .Gt (.ex (.bi .len (.ex (.var 2)))) (.ex (.int 1)))
  (.cons (.asg 3 (.e (.bin .FloorDiv (.bi .len (.ex (.var 2))) (.int 2))))
  (.cons (.asg 4 (.l (.comp (.bin .Mod (.bin .Add (.var 6) (.var 7)) (.int 2)) [6, 7] [6, 7] (.zip (.ex (.nl (.sl (.ex (.var 2)) .no (.yes (.var 3))))) (.ex (.nl (.sl (.ex (.var 2)) (.yes (.var 3)) .no)))) .nil)))
  (.cons (.frz 4 (.unp [5, 2] (.ife (.tc .In (.ex (.int 1)) (.ex (.var 4))) (.tup (.cons (.str "unlike") (.cons (.var 4) .nil))) (.tup (.cons (.str "like") (.cons (.nl (.sl (.ex (.var 2)) .no (.yes (.var 3)))) .nil))))))
  (.cons (.app 1 (.tup (.cons (.var 5) (.cons (.nl (.of (.ex (.var 2)))) .nil))))
  .nil)))))
  (.cons (.frz 1 (.ret (.var 1)))
  .nil)))⟩
/-- halves -/
def F5 : FD := ⟨1, 1, (.cons (.expr (.call 3 (.cons (.var 0) .nil)))
  (.cons (.ret (.call 4 (.cons (.var 0) .nil)))
  .nil))⟩
/-- length_of -/
def F6 : FD := ⟨1, 5, (.cons (.asg 1 (.e (.call 4 (.cons (.var 0) .nil))))
  (.cons (.asg 2 (.e (.ife (.tc .NotEq (.ex (.var 1)) (.ex (.nl (.lit .nil)))) (.idx (.ex (.idx (.ex (.var 1)) (.neg (.int 1)))) (.int 1)) (.var 0))))
  (.cons (.ret (.bin .Add (.bi .sum (.ex (.nl (.comp (.bi .len (.ex (.var 4))) [3, 4] [3, 4] (.over (.ex (.var 1))) (.cons (.tc .Eq (.ex (.var 3)) (.ex (.str "unlike"))) .nil))))) (.idx (.ex (.var 2)) (.int 0))))
  .nil)))⟩
/-- round_length -/
def F7 : FD := ⟨1, 1, (.cons (.expr (.call 3 (.cons (.var 0) .nil)))
  (.cons (.ret (.call 6 (.cons (.var 0) .nil)))
  .nil))⟩
/-- _law_same -/
def F8 : FD := ⟨2, 4, (.cons (.ife (.tv (.isi (.var 1) [.t "list", .t "tuple"] false))
  (.cons (.ife (.to (.cons (.tc .NotEq (.ex (.isi (.var 0) [.t "list"] true)) (.ex (.isi (.var 1) [.t "list"] true))) (.cons (.tc .NotEq (.ex (.isi (.var 0) [.t "tuple"] true)) (.ex (.isi (.var 1) [.t "tuple"] true))) .nil)))
  (.cons (.ret (.bl false))
  .nil)
  .nil)
  (.cons (.ret (.andV (.cons (.cmp .Eq (.ex (.bi .len (.ex (.var 0)))) (.ex (.bi .len (.ex (.var 1))))) (.cons (.bi .all (.ex (.nl (.comp (.call 8 (.cons (.var 2) (.cons (.var 3) .nil))) [2, 3] [2, 3] (.zip (.ex (.var 0)) (.ex (.var 1))) .nil)))) .nil))))
  .nil))
  .nil)
  (.cons (.ife (.tv (.isi (.var 1) [.t "dict"] true))
  .nev
  .nil)
  (.cons (.ife (.to (.cons (.tv (.isi (.var 1) [.t "bool"] true)) (.cons (.tv (.isi (.var 0) [.t "bool"] true)) .nil)))
  (.cons (.ret (.andV (.cons (.isi (.var 1) [.t "bool"] true) (.cons (.isi (.var 0) [.t "bool"] true) (.cons (.cmp .Eq (.ex (.var 0)) (.ex (.var 1))) .nil)))))
  .nil)
  .nil)
  (.cons (.ife (.to (.cons (.tc .Is (.ex (.var 1)) (.ex .non)) (.cons (.tc .Is (.ex (.var 0)) (.ex .non)) .nil)))
  (.cons (.ret (.andV (.cons (.cmp .Is (.ex (.var 1)) (.ex .non)) (.cons (.cmp .Is (.ex (.var 0)) (.ex .non)) .nil))))
  .nil)
  .nil)
  (.cons (.ife (.to (.cons (.tc .NotEq (.ex (.isi (.var 1) [.t "int"] true)) (.ex (.isi (.var 0) [.t "int"] true))) (.cons (.tc .NotEq (.ex (.isi (.var 1) [.t "str"] true)) (.ex (.isi (.var 0) [.t "str"] true))) .nil)))
  (.cons (.ret (.bl false))
  .nil)
  .nil)
  (.cons (.ret (.andV (.cons (.not (.isi (.var 0) [.t "list", .t "tuple", .t "dict"] false)) (.cons (.cmp .Eq (.ex (.var 0)) (.ex (.var 1))) .nil))))
  .nil))))))⟩
/-- _law_loose -/
def F9 : FD := ⟨2, 4, (.cons (.ife (.tv (.isi (.var 1) [.t "list", .t "tuple"] false))
  (.cons (.asg 2 (.l (.comp (.call 9 (.cons (.var 0) (.cons (.var 3) .nil))) [3] [3] (.over (.ex (.var 1))) .nil)))
  (.cons (.frz 2 (.ret (.ife (.tc .Eq (.ex (.draw (.var 0) (.int 2))) (.ex (.int 0))) (.var 2) (.bi .tuple (.ex (.var 2))))))
  .nil))
  .nil)
  (.cons (.ret (.var 1))
  .nil))⟩
/-- _law_power -/
def F10 : FD := ⟨2, 4, (.cons (.asg 2 (.e (.int 1)))
  (.cons (.for [3] (.rng1 (.var 1))
  (.cons (.asg 2 (.e (.bin .Mult (.var 2) (.var 0))))
  .nil))
  (.cons (.ret (.var 2))
  .nil)))⟩
/-- _law_halves -/
def F11 : FD := ⟨1, 6, (.cons (.par [1, 2] [(.l (.lit .nil)), (.e (.nl (.of (.ex (.var 0)))))])
  (.cons (.whl (.tc .Gt (.ex (.bi .len (.ex (.var 2)))) (.ex (.int 1)))
  (.cons (.asg 3 (.e (.bin .FloorDiv (.bi .len (.ex (.var 2))) (.int 2))))
  (.cons (.asg 4 (.l (.comp (.ife (.tc .Eq (.ex (.idx (.ex (.var 2)) (.var 5))) (.ex (.idx (.ex (.var 2)) (.bin .Add (.var 5) (.var 3))))) (.int 0) (.int 1)) [5] [5] (.rng1 (.var 3)) .nil)))
  (.cons (.frz 4 (.asg 2 (.e (.ife (.tc .In (.ex (.int 1)) (.ex (.var 4))) (.var 4) (.nl (.sl (.ex (.var 2)) .no (.yes (.var 3))))))))
  (.cons (.app 1 (.tup (.cons (.ife (.tc .In (.ex (.int 1)) (.ex (.var 4))) (.str "unlike") (.str "like")) (.cons (.nl (.of (.ex (.var 2)))) .nil))))
  .nil)))))
  (.cons (.frz 1 (.ret (.var 1)))
  .nil)))⟩
/-- _law_half_length -/
def F12 : FD := ⟨1, 5, (.cons (.asg 1 (.e (.call 11 (.cons (.var 0) .nil))))
  (.cons (.asg 2 (.e (.ife (.tc .NotEq (.ex (.var 1)) (.ex (.nl (.lit .nil)))) (.idx (.ex (.idx (.ex (.var 1)) (.neg (.int 1)))) (.int 1)) (.var 0))))
  (.cons (.ret (.bin .Add (.bi .sum (.ex (.nl (.comp (.bi .len (.ex (.var 4))) [3, 4] [3, 4] (.over (.ex (.var 1))) (.cons (.tc .Eq (.ex (.var 3)) (.ex (.str "unlike"))) .nil))))) (.idx (.ex (.var 2)) (.int 0))))
  .nil)))⟩
/-- _law_massey -/
def F13 : FD := ⟨2, 19, (.cons (.par [4, 5, 6, 7, 8] [(.e (.nl (.lit (.cons (.int 1) .nil)))), (.e (.nl (.lit (.cons (.int 1) .nil)))), (.e (.int 0)), (.e (.int 1)), (.e (.int 1))])
  (.cons (.for [2] (.rng1 (.bi .len (.ex (.var 1))))
  (.cons (.asg 9 (.e (.bin .Mod (.bi .int (.ex (.bi .sum (.ex (.nl (.comp (.bin .Mult (.var 14) (.idx (.ex (.var 1)) (.bin .Sub (.var 2) (.var 18)))) [18, 14] [18, 14] (.enum (.ex (.var 4))) (.cons (.tc .LtE (.ex (.var 18)) (.ex (.var 2))) .nil))))))) (.var 0))))
  (.cons (.ife (.tc .Eq (.ex (.var 9)) (.ex (.int 0)))
  (.cons (.asg 7 (.e (.bin .Add (.var 7) (.int 1))))
  .nil)
  (.cons (.asg 10 (.e (.idx (.ex (.nl (.comp (.var 15) [15] [15] (.rng2 (.int 1) (.var 0)) (.cons (.tc .Eq (.ex (.bin .Mod (.bi .int (.ex (.bin .Mult (.var 8) (.var 15)))) (.var 0))) (.ex (.int 1))) .nil)))) (.int 0))))
  (.cons (.asg 11 (.e (.nl (.cat (.ex (.nl (.rep (.ex (.nl (.lit (.cons (.int 0) .nil)))) (.var 7)))) (.ex (.nl (.comp (.bin .Mod (.bi .int (.ex (.bin .Mult (.bin .Mult (.var 9) (.var 10)) (.var 14)))) (.var 0)) [14] [14] (.over (.ex (.var 5))) .nil)))))))
  (.cons (.asg 12 (.e (.bi2 .max (.bi .len (.ex (.var 4))) (.bi .len (.ex (.var 11))))))
  (.cons (.asg 13 (.e (.nl (.of (.ex (.var 4))))))
  (.cons (.asg 4 (.e (.nl (.sl (.ex (.nl (.comp (.bin .Mod (.bi .int (.ex (.bin .Sub (.var 16) (.var 17)))) (.var 0)) [16, 17] [16, 17] (.zip (.ex (.nl (.cat (.ex (.var 4)) (.ex (.nl (.rep (.ex (.nl (.lit (.cons (.int 0) .nil)))) (.var 12))))))) (.ex (.nl (.sl (.ex (.nl (.cat (.ex (.var 11)) (.ex (.nl (.rep (.ex (.nl (.lit (.cons (.int 0) .nil)))) (.var 12))))))) .no (.yes (.var 12)))))) .nil))) .no (.yes (.var 12))))))
  (.cons (.ife (.tc .LtE (.ex (.bin .Mult (.int 2) (.var 6))) (.ex (.var 2)))
  (.cons (.par [6, 5, 8, 7] [(.e (.bin .Sub (.bin .Add (.var 2) (.int 1)) (.var 6))), (.e (.var 13)), (.e (.var 9)), (.e (.int 1))])
  .nil)
  (.cons (.asg 7 (.e (.bin .Add (.var 7) (.int 1))))
  .nil))
  .nil)))))))
  .nil)))
  (.cons (.asg 3 (.l (.comp (.bin .Mod (.bi .int (.ex (.bin .Sub (.int 0) (.var 14)))) (.var 0)) [14] [14] (.over (.ex (.nl (.sl (.ex (.nl (.cat (.ex (.var 4)) (.ex (.nl (.rep (.ex (.nl (.lit (.cons (.int 0) .nil)))) (.var 6))))))) (.yes (.int 1)) (.yes (.bin .Add (.var 6) (.int 1))))))) .nil)))
  (.cons (.frz 3 (.ret (.tup (.cons (.var 6) (.cons (.var 3) .nil)))))
  .nil))))⟩
/-- _law_twos -/
def F14 : FD := ⟨2, 9, (.cons (.par2 4 5 (.e (.draw (.var 0) (.bin .Add (.var 1) (.int 1)))) (.e (.draw (.var 0) (.int 5))))
  (.cons (.asg 2 (.e (.call 10 (.cons (.int 2) (.cons (.var 4) .nil)))))
  (.cons (.asg 3 (.l (.comp (.draw (.var 0) (.int 2)) [8] [8] (.rng1 (.var 2)) .nil)))
  (.cons (.ife (.tc .Eq (.ex (.var 5)) (.ex (.int 1)))
  (.cons (.asg 3 (.l (.comp (.ife (.tc .Eq (.ex (.draw (.var 0) (.int 6))) (.ex (.int 0))) (.int 1) (.int 0)) [8] [8] (.rng1 (.var 2)) .nil)))
  .nil)
  .nil)
  (.cons (.ife (.tc .Eq (.ex (.var 5)) (.ex (.int 2)))
  (.cons (.asg 6 (.e (.nl (.sl (.own 3) .no (.yes (.call 10 (.cons (.int 2) (.cons (.draw (.var 0) (.bin .Add (.var 4) (.int 1))) .nil))))))))
  (.cons (.asg 3 (.l (.sl (.ex (.nl (.rep (.ex (.var 6)) (.var 2)))) .no (.yes (.var 2)))))
  .nil))
  .nil)
  (.cons (.ife (.tc .Eq (.ex (.var 5)) (.ex (.int 3)))
  (.cons (.for [7] (.rng1 (.draw (.var 0) (.var 2)))
  (.cons (.asg 3 (.l (.comp (.bin .Mod (.bi .int (.ex (.bin .Add (.idx (.own 3) (.var 8)) (.idx (.own 3) (.bin .Sub (.var 8) (.int 1)))))) (.int 2)) [8] [8] (.rng1 (.var 2)) .nil)))
  .nil))
  .nil)
  .nil)
  (.cons (.ife (.tc .Eq (.ex (.var 5)) (.ex (.int 4)))
  (.cons (.asg 3 (.l (.rep (.ex (.nl (.lit (.cons (.draw (.var 0) (.int 2)) .nil)))) (.var 2))))
  .nil)
  .nil)
  (.cons (.frz 3 (.ret (.var 3)))
  .nil))))))))⟩
def FL : FD := ⟨1, 15, (.cons (.for [2] (.rng1 (.int 8))
  (.cons (.asg 5 (.e (.call 14 (.cons (.var 1) (.cons (.ife (.tc .Lt (.ex (.var 2)) (.ex (.int 3))) (.int 6) (.int 4)) .nil)))))
  (.cons (.par [9, 10, 11] [(.e (.call 9 (.cons (.var 1) (.cons (.var 5) .nil)))), (.e (.call 11 (.cons (.var 5) .nil))), (.e (.call 12 (.cons (.var 5) .nil)))])
  (.cons (.parS 12 13 (.bi .repr (.ex (.var 9))) (.nl (.lit (.cons (.call 5 (.cons (.var 9) .nil)) (.cons (.kcall 5 .nil ["numbers"] (.cons (.nl (.of (.ex (.var 5)))) .nil) [0]) .nil)))))
  (.cons (.ife (.tn (.tv (.sc (.call 8 (.cons (.var 13) (.cons (.nl (.lit (.cons (.var 10) (.cons (.var 10) .nil)))) .nil))))))
  (.cons (.ret (.bl false))
  .nil)
  .nil)
  (.cons (.lateF 13 6)
  (.cons (.lateP 13 1)
  (.cons (.asg 7 (.e (.nl (.lit (.cons (.call 7 (.cons (.var 9) .nil)) (.cons (.kcall 7 .nil ["numbers"] (.cons (.bi .tuple (.ex (.var 5))) .nil) [0]) .nil))))))
  (.cons (.ife (.to (.cons (.tn (.tv (.call 8 (.cons (.var 7) (.cons (.nl (.lit (.cons (.var 11) (.cons (.var 11) .nil)))) .nil))))) (.cons (.tn (.tv (.call 8 (.cons (.call 5 (.cons (.var 9) .nil)) (.cons (.var 10) .nil))))) (.cons (.tc .NotEq (.ex (.bi .repr (.ex (.var 9)))) (.ex (.var 12))) .nil))))
  (.cons (.ret (.bl false))
  .nil)
  .nil)
  (.cons (.ife (.tc .NotEq (.ex (.idx (.ex (.call 13 (.cons (.int 2) (.cons (.nl (.cat (.ex (.var 5)) (.ex (.var 5)))) .nil)))) (.int 0))) (.ex (.var 11)))
  (.cons (.ret (.bl false))
  .nil)
  .nil)
  .nil))))))))))
  (.cons (.asg 3 (.e (.rdw 0 8)))
  (.cons (.for [4] (.rng1 (.int 32))
  (.cons (.par2 5 14 (.l (.lit .nil)) (.e (.bin .Add (.bin .Mult (.int 32) (.var 3)) (.var 4))))
  (.cons (.for [8] (.rng1 (.int 8))
  (.cons (.app 5 (.bin .Mod (.bi .int (.ex (.var 14))) (.int 2)))
  (.cons (.asg 14 (.e (.bin .FloorDiv (.var 14) (.int 2))))
  .nil)))
  (.cons (.ife (.tn (.tv (.sc (.call 8 (.cons (.call 7 (.cons (.nl (.of (.ex (.var 5)))) .nil)) (.cons (.call 12 (.cons (.var 5) .nil)) .nil))))))
  (.cons (.ret (.bl false))
  .nil)
  .nil)
  .nil))))
  (.cons (.ret (.bl true))
  .nil))))⟩
def T : List FD := [F0, F1, F2, F3, F4, F5, F6, F7, F8, F9, F10, F11, F12, F13, F14]
def I0 : FI := ⟨"is_list", "is_list", defArgs (top 1), defBody (top 1), defScope (top 1), ["thing"], ["thing"], F0, .glo⟩
def I1 : FI := ⟨"is_whole", "is_whole", defArgs (top 2), defBody (top 2), defScope (top 2), ["thing"], ["thing"], F1, .glo⟩
def I2 : FI := ⟨"is_power", "is_power", defArgs (top 8), defBody (top 8), defScope (top 8), ["number"], ["number"], F2, .glo⟩
def I3 : FI := ⟨"check_twos", "check_twos", defArgs (top 9), defBody (top 9), defScope (top 9), ["numbers"], ["numbers", "number"], F3, .glo⟩
def I4 : FI := ⟨"steps_of", "steps_of", defArgs (top 10), defBody (top 10), defScope (top 10), ["numbers"], ["numbers", "found", "row", "half", "sums", "word", "one", "two"], F4, .glo⟩
def I5 : FI := ⟨"halves", "halves", defArgs (top 11), defBody (top 11), defScope (top 11), ["numbers"], ["numbers"], F5, .glo⟩
def I6 : FI := ⟨"length_of", "length_of", defArgs (top 12), defBody (top 12), defScope (top 12), ["numbers"], ["numbers", "steps", "last", "word", "row"], F6, .glo⟩
def I7 : FI := ⟨"round_length", "round_length", defArgs (top 13), defBody (top 13), defScope (top 13), ["numbers"], ["numbers"], F7, .glo⟩
def I8 : FI := ⟨"_law_same", "_law_same", defArgs (top 17), defBody (top 17), defScope (top 17), ["found", "due"], ["found", "due", "mine", "theirs"], F8, .glo⟩
def I9 : FI := ⟨"_law_loose", "_law_loose", defArgs (top 18), defBody (top 18), defScope (top 18), ["stream", "thing"], ["stream", "thing", "some", "one"], F9, .glo⟩
def I10 : FI := ⟨"_law_power", "_law_power", defArgs (top 19), defBody (top 19), defScope (top 19), ["base", "times"], ["base", "times", "found", "turn"], F10, .glo⟩
def I11 : FI := ⟨"_law_halves", "_law_halves", defArgs (top 20), defBody (top 20), defScope (top 20), ["numbers"], ["numbers", "found", "row", "half", "sums", "at"], F11, .glo⟩
def I12 : FI := ⟨"_law_half_length", "_law_half_length", defArgs (top 21), defBody (top 21), defScope (top 21), ["numbers"], ["numbers", "steps", "last", "word", "row"], F12, .glo⟩
def I13 : FI := ⟨"_law_massey", "_law_massey", defArgs (top 22), defBody (top 22), defScope (top 22), ["prime", "numbers"], ["prime", "numbers", "index", "rule", "now", "ahead", "many", "gap", "last", "off", "by", "step", "wide", "kept", "part", "number", "one", "two", "at"], F13, .glo⟩
def I14 : FI := ⟨"_law_twos", "_law_twos", defArgs (top 23), defBody (top 23), defScope (top 23), ["stream", "most"], ["stream", "most", "many", "row", "size", "way", "part", "turn", "at"], F14, .glo⟩
def ID : FI := ⟨"_law_draw", "_law_draw", defArgs (top 16), defBody (top 16), defScope (top 16), ["stream", "many"], ["stream", "many"], ⟨2, 2, .nil⟩, .glo⟩
def IS : FI := ⟨"_law_stream", "_law_stream", defArgs (top 15), defBody (top 15), defScope (top 15), ["script"], ["script"], ⟨1, 1, .nil⟩, .glo⟩
def IL : FI := ⟨"law", "law", defArgs (top 24), defBody (top 24), defScope (top 24), ["script"], ["script", "stream", "turn", "number", "low", "row", "step", "found", "at", "handed", "due", "length", "look", "told", "left"], FL, .glo⟩
def ex : List FI := []
def tb : List FI := [I0, I1, I2, I3, I4, I5, I6, I7, I8, I9, I10, I11, I12, I13, I14]
def kws : List KwS := [(5, ["numbers"], 0, [0]), (7, ["numbers"], 0, [0])]
theorem bI0 : Bnd I0 := fun _ _ _ _ _ _ us hl => match us, hl with | [_], _ => rfl
theorem bI1 : Bnd I1 := fun _ _ _ _ _ _ us hl => match us, hl with | [_], _ => rfl
theorem bI2 : Bnd I2 := fun _ _ _ _ _ _ us hl => match us, hl with | [_], _ => rfl
theorem bI3 : Bnd I3 := fun _ _ _ _ _ _ us hl => match us, hl with | [_], _ => rfl
theorem bI4 : Bnd I4 := fun _ _ _ _ _ _ us hl => match us, hl with | [_], _ => rfl
theorem bI5 : Bnd I5 := fun _ _ _ _ _ _ us hl => match us, hl with | [_], _ => rfl
theorem bI6 : Bnd I6 := fun _ _ _ _ _ _ us hl => match us, hl with | [_], _ => rfl
theorem bI7 : Bnd I7 := fun _ _ _ _ _ _ us hl => match us, hl with | [_], _ => rfl
theorem bI8 : Bnd I8 := fun _ _ _ _ _ _ us hl => match us, hl with | [_, _], _ => rfl
theorem bI9 : Bnd I9 := fun _ _ _ _ _ _ us hl => match us, hl with | [_, _], _ => rfl
theorem bI10 : Bnd I10 := fun _ _ _ _ _ _ us hl => match us, hl with | [_, _], _ => rfl
theorem bI11 : Bnd I11 := fun _ _ _ _ _ _ us hl => match us, hl with | [_], _ => rfl
theorem bI12 : Bnd I12 := fun _ _ _ _ _ _ us hl => match us, hl with | [_], _ => rfl
theorem bI13 : Bnd I13 := fun _ _ _ _ _ _ us hl => match us, hl with | [_, _], _ => rfl
theorem bI14 : Bnd I14 := fun _ _ _ _ _ _ us hl => match us, hl with | [_, _], _ => rfl
theorem bID : Bnd ID := fun _ _ _ _ _ _ us hl => match us, hl with | [_, _], _ => rfl
theorem bIS : Bnd IS := fun _ _ _ _ _ _ us hl => match us, hl with | [_], _ => rfl
theorem bIL : Bnd IL := fun _ _ _ _ _ _ us hl => match us, hl with | [_], _ => rfl
theorem bnd : ∀ I ∈ ID :: IS :: IL :: (ex ++ tb), Bnd I := (List.forall_mem_cons.mpr ⟨bID, (List.forall_mem_cons.mpr ⟨bIS, (List.forall_mem_cons.mpr ⟨bIL, (List.forall_mem_cons.mpr ⟨bI0, (List.forall_mem_cons.mpr ⟨bI1, (List.forall_mem_cons.mpr ⟨bI2, (List.forall_mem_cons.mpr ⟨bI3, (List.forall_mem_cons.mpr ⟨bI4, (List.forall_mem_cons.mpr ⟨bI5, (List.forall_mem_cons.mpr ⟨bI6, (List.forall_mem_cons.mpr ⟨bI7, (List.forall_mem_cons.mpr ⟨bI8, (List.forall_mem_cons.mpr ⟨bI9, (List.forall_mem_cons.mpr ⟨bI10, (List.forall_mem_cons.mpr ⟨bI11, (List.forall_mem_cons.mpr ⟨bI12, (List.forall_mem_cons.mpr ⟨bI13, (List.forall_mem_cons.mpr ⟨bI14, (fun _ h => by cases h)⟩)⟩)⟩)⟩)⟩)⟩)⟩)⟩)⟩)⟩)⟩)⟩)⟩)⟩)⟩)⟩)⟩)⟩)
theorem kb : ∀ q ∈ kws, q = spK ∨ (∃ I, tb[q.1]? = some I ∧ I.kd = .glo ∧ q.2.2.1 < 1000 ∧ KBnd I q.2.1 q.2.2.1 q.2.2.2) ∨ (∃ c ns, q = clsK c ns ∧ CT.lookup c = some ns ∧ ns.Nodup) ∨ (∃ g c m, q = methK g c m ∧ ∃ I, tb[g]? = some I ∧ I.kd = .met c m) := (List.forall_mem_cons.mpr ⟨.inr (.inl ⟨I5, rfl, rfl, by decide, by decide, fun _ _ _ _ _ _ us ws h1 h2 => match us, h1, ws, h2 with | [], _, [_], _ => rfl⟩), (List.forall_mem_cons.mpr ⟨.inr (.inl ⟨I7, rfl, rfl, by decide, by decide, fun _ _ _ _ _ _ us ws h1 h2 => match us, h1, ws, h2 with | [], _, [_], _ => rfl⟩), (fun _ h => by cases h)⟩)⟩)
theorem lawT : LawT CT ID IS IL ex tb kws := ⟨by decide +kernel, bnd, kb, by decide +kernel, ⟨rfl, rfl, rfl⟩, by decide, fun h => absurd h (by decide), by decide +kernel, ⟨rfl, rfl, rfl⟩, ⟨by decide +kernel, by decide +kernel, by decide +kernel⟩, by decide +kernel, ⟨rfl, rfl, rfl⟩, by decide +kernel, by decide +kernel, ⟨rfl, rfl, rfl⟩, ⟨rfl, rfl, by decide, by decide +kernel, by decide +kernel⟩⟩
def rest : List Stmt := (defBody (top 24)).drop 1
theorem chk : chkSs IL.N (tb.map (·.nm)) kws IL.F.body IL.scope rest = true := by decide +kernel
end Lk62

set_option maxHeartbeats 4000000
/-! NT9: lengths by halves (lists of bits alone). -/
namespace HV
open DL
/-- bits -/
def Bt (xs : List Int) : Prop := ∀ i ∈ xs, i = 0 ∨ i = 1
def sx (a b : List Int) : List Int := List.zipWith (fun x y => (x + y) % 2) a b
def aH (n : Nat) (x : List Int) : List Int := x.take (2 ^ n)
def bH (n : Nat) (x : List Int) : List Int := x.drop (2 ^ n)
def sH (n : Nat) (x : List Int) : List Int := sx (aH n x) (bH n x)
def has (x : List Int) : Bool := decide ((1 : Int) ∈ x)
/-- one step of halving -/
def stp (n : Nat) (x : List Int) : Bool × List Int := if has (sH n x) = true then (true, sH n x) else (false, aH n x)
def steps : Nat → List Int → List (Bool × List Int)
  | 0, _ => []
  | n + 1, x => stp n x :: steps n (stp n x).2
def lastR : Nat → List Int → List Int
  | 0, x => x
  | n + 1, x => lastR n (stp n x).2
/-- the length by halves -/
def hl : Nat → List Int → Nat
  | 0, x => (gdI x 0).toNat
  | n + 1, x => if has (sH n x) = true then 2 ^ n + hl n (sH n x) else hl n (aH n x)
structure Rw (n : Nat) (x : List Int) : Prop where
  len : x.length = 2 ^ n
  bt : Bt x
theorem pw (n : Nat) : 2 ^ (n + 1) = 2 ^ n + 2 ^ n := by rw [Nat.pow_succ]; omega
theorem bt_take {x : List Int} (h : Bt x) (k : Nat) : Bt (x.take k) := fun i hi => h i (List.mem_of_mem_take hi)
theorem bt_drop {x : List Int} (h : Bt x) (k : Nat) : Bt (x.drop k) := fun i hi => h i (List.mem_of_mem_drop hi)
theorem sx_len (a b : List Int) : (sx a b).length = min a.length b.length := by unfold sx; rw [List.length_zipWith]
theorem sx_bt (a b : List Int) : Bt (sx a b) := fun i hi => by
  obtain ⟨j, hj, rfl⟩ := List.mem_iff_getElem.mp hi
  simp only [sx, List.getElem_zipWith]
  omega
theorem Rw.a {n : Nat} {x : List Int} (h : Rw (n + 1) x) : Rw n (aH n x) := ⟨by unfold aH; have := Nat.two_pow_pos n; rw [List.length_take, h.len, pw]; omega, bt_take h.bt _⟩
theorem Rw.b {n : Nat} {x : List Int} (h : Rw (n + 1) x) : Rw n (bH n x) := ⟨by unfold bH; have := Nat.two_pow_pos n; rw [List.length_drop, h.len, pw]; omega, bt_drop h.bt _⟩
theorem Rw.sx {n : Nat} {x y : List Int} (h : Rw n x) (g : Rw n y) : Rw n (sx x y) := ⟨by rw [sx_len, h.len, g.len, Nat.min_self], sx_bt _ _⟩
theorem Rw.s {n : Nat} {x : List Int} (h : Rw (n + 1) x) : Rw n (sH n x) := h.a.sx h.b
theorem Rw.stp {n : Nat} {x : List Int} (h : Rw (n + 1) x) : Rw n (stp n x).2 := by
  unfold HV.stp
  split
  · exact h.s
  · exact h.a
theorem has_no {x : List Int} (h : Bt x) (g : has x = false) : ∀ i, (hi : i < x.length) → x[i] = 0 := fun i hi => by
  have := of_decide_eq_false g
  rcases h _ (List.getElem_mem hi) with z | z
  · exact z
  · exact absurd (by rw [← z]; exact List.getElem_mem hi) this
theorem bt_at {x : List Int} (h : Bt x) {i : Nat} (hi : i < x.length) : x[i] = 0 ∨ x[i] = 1 := h _ (List.getElem_mem hi)
theorem ex4 {a b c d : List Int} (h1 : a.length = b.length) (h2 : c.length = d.length) (h3 : a.length = c.length) : sx (sx a c) (sx b d) = sx (sx a b) (sx c d) := by
  refine List.ext_getElem (by simp only [sx_len]; omega) fun i i1 i2 => ?_
  simp only [sx, List.getElem_zipWith]
  omega
theorem sx_zero {x y : List Int} (hx : Bt x) (hl : x.length = y.length) (h : ∀ i, (hi : i < y.length) → y[i] = 0) : sx x y = x := by
  refine List.ext_getElem (by simp only [sx_len]; omega) fun i i1 i2 => ?_
  have h0 := h i (by omega)
  have h1 := bt_at hx i2
  simp only [sx, List.getElem_zipWith, h0]
  omega
theorem sx_comm (x y : List Int) : sx x y = sx y x := by
  refine List.ext_getElem (by simp only [sx_len]; omega) fun i i1 i2 => ?_
  simp only [sx, List.getElem_zipWith]
  omega
theorem sx_same {x y : List Int} (hx : Bt x) (hy : Bt y) (hl : x.length = y.length) (h : has (sx x y) = false) : x = y := by
  refine List.ext_getElem hl fun i i1 i2 => ?_
  have h0 := has_no (sx_bt x y) h i (by rw [sx_len]; omega)
  have h1 := bt_at hx i1
  have h2 := bt_at hy i2
  simp only [sx, List.getElem_zipWith] at h0
  omega
theorem hl_le : ∀ (n : Nat) (x : List Int), Rw n x → hl n x ≤ 2 ^ n
  | 0, x, h => by
    unfold hl
    rw [gdI_at (by rw [h.len]; decide)]
    have := bt_at h.bt (i := 0) (by rw [h.len]; decide)
    have e : (2 : Nat) ^ 0 = 1 := rfl
    omega
  | n + 1, x, h => by
    unfold hl
    have := hl_le n _ h.s
    have := hl_le n _ h.a
    have := pw n
    split <;> omega
theorem hl_pos : ∀ (n : Nat) (x : List Int), Rw n x → has x = true → 0 < hl n x
  | 0, x, h, g => by
    have g := of_decide_eq_true g
    obtain ⟨i, hi, e⟩ := List.mem_iff_getElem.mp g
    have hi1 : i < 1 := by rw [h.len] at hi; exact hi
    obtain rfl : i = 0 := by omega
    unfold hl
    rw [gdI_at hi, e]
    decide
  | n + 1, x, h, g => by
    unfold hl
    have hp := Nat.two_pow_pos n
    split
    · omega
    · rename_i z
      have z : has (sH n x) = false := by simpa using z
      refine hl_pos n _ h.a ?_
      have e := sx_same h.a.bt h.b.bt (by rw [h.a.len, h.b.len]) z
      have g := of_decide_eq_true g
      have ex : x = aH n x ++ bH n x := (List.take_append_drop _ _).symm
      rw [ex] at g
      refine decide_eq_true ?_
      rcases List.mem_append.mp g with y | y
      · exact y
      · rw [e]; exact y
theorem hl_zero : ∀ (n : Nat) (x : List Int), Rw n x → has x = false → hl n x = 0
  | 0, x, h, g => by
    unfold hl
    rw [gdI_at (by rw [h.len]; decide), has_no h.bt g 0 (by rw [h.len]; decide)]
    rfl
  | n + 1, x, h, g => by
    have hz := has_no h.bt g
    unfold hl
    have hs : has (sH n x) = false := by
      refine decide_eq_false fun m => ?_
      obtain ⟨i, hi, e⟩ := List.mem_iff_getElem.mp m
      unfold sH sx aH bH at hi e
      rw [List.getElem_zipWith, List.getElem_take, List.getElem_drop, hz, hz] at e
      simp at e
    rw [if_neg (by rw [hs]; exact Bool.false_ne_true)]
    refine hl_zero n _ h.a (decide_eq_false fun m => ?_)
    exact of_decide_eq_false g (List.mem_of_mem_take m)
theorem aH_sx (n : Nat) (x y : List Int) : aH n (sx x y) = sx (aH n x) (aH n y) := by unfold aH sx; rw [List.take_zipWith]
theorem bH_sx (n : Nat) (x y : List Int) : bH n (sx x y) = sx (bH n x) (bH n y) := by unfold bH sx; rw [List.drop_zipWith]
theorem sH_sx {n : Nat} {x y : List Int} (h : Rw (n + 1) x) (g : Rw (n + 1) y) : sH n (sx x y) = sx (sH n x) (sH n y) := by
  unfold sH
  rw [aH_sx, bH_sx, ex4 (by rw [h.a.len, h.b.len]) (by rw [g.a.len, g.b.len]) (by rw [h.a.len, g.a.len])]
/-- a row made otherwise is of less length just if what is made otherwise has its length -/
theorem hl_add : ∀ (n : Nat) (x y : List Int), Rw n x → Rw n y → 0 < hl n x → (hl n (sx x y) < hl n x ↔ hl n y = hl n x)
  | 0, x, y, h, g, hp => by
    unfold hl at *
    have l0 : 0 < x.length := by rw [h.len]; decide
    have l1 : 0 < y.length := by rw [g.len]; decide
    have l2 : 0 < (sx x y).length := by rw [sx_len]; omega
    rw [gdI_at l0, gdI_at l1, gdI_at l2] at *
    have b0 := bt_at h.bt l0
    have b1 := bt_at g.bt l1
    have e : (sx x y)[0] = (x[0] + y[0]) % 2 := by simp only [sx, List.getElem_zipWith]
    rw [e]
    omega
  | n + 1, x, y, h, g, hp => by
    have hp2 := Nat.two_pow_pos n
    have ea := aH_sx n x y
    have es := sH_sx h g
    have lx := hl_le n _ h.a
    have ly := hl_le n _ g.a
    unfold hl at hp ⊢
    rw [ea, es]
    cases hs : has (sH n x) with
    | false =>
      cases ht : has (sH n y) with
      | false =>
        have e : sx (sH n x) (sH n y) = sH n x := sx_zero h.s.bt (by rw [h.s.len, g.s.len]) (has_no g.s.bt ht)
        rw [e, hs]
        simp only [Bool.false_eq_true, if_false]
        rw [hs] at hp
        exact hl_add n _ _ h.a g.a (by simpa using hp)
      | true =>
        have e : sx (sH n x) (sH n y) = sH n y := by rw [sx_comm]; exact sx_zero g.s.bt (by rw [h.s.len, g.s.len]) (has_no h.s.bt hs)
        rw [e, ht]
        simp only [Bool.false_eq_true, if_false, if_true]
        have := hl_pos n _ g.s ht
        omega
    | true =>
      have ps := hl_pos n _ h.s hs
      cases ht : has (sH n y) with
      | false =>
        have e : sx (sH n x) (sH n y) = sH n x := sx_zero h.s.bt (by rw [h.s.len, g.s.len]) (has_no g.s.bt ht)
        rw [e, hs]
        simp only [Bool.false_eq_true, if_false, if_true]
        omega
      | true =>
        cases hu : has (sx (sH n x) (sH n y)) with
        | true =>
          simp only [if_true]
          have := hl_add n _ _ h.s g.s ps
          omega
        | false =>
          have e := sx_same h.s.bt g.s.bt (by rw [h.s.len, g.s.len]) hu
          simp only [Bool.false_eq_true, if_false, if_true]
          have := hl_le n _ (h.a.sx g.a)
          rw [← e]
          omega
/-- told by the steps -/
theorem hl_steps : ∀ (n : Nat) (x : List Int), Rw n x → (hl n x : Int) = (((steps n x).filter fun s => s.1).map fun s => (s.2.length : Int)).sum + gdI (lastR n x) 0
  | 0, x, h => by
    unfold hl steps lastR
    have l0 : 0 < x.length := by rw [h.len]; decide
    rw [gdI_at l0]
    have := bt_at h.bt l0
    simp
    omega
  | n + 1, x, h => by
    have ih := hl_steps n _ h.stp
    unfold hl steps lastR
    cases hs : has (sH n x) with
    | true =>
      have e : stp n x = (true, sH n x) := by unfold stp; rw [if_pos hs]
      rw [e] at ih ⊢
      rw [if_pos rfl, List.filter_cons, if_pos rfl, List.map_cons, List.sum_cons]
      dsimp only at ih ⊢
      rw [h.s.len, Int.natCast_add, ih]
      omega
    | false =>
      have e : stp n x = (false, aH n x) := by unfold stp; rw [if_neg (by rw [hs]; exact Bool.false_ne_true)]
      rw [e] at ih ⊢
      rw [if_neg Bool.false_ne_true, List.filter_cons, if_neg Bool.false_ne_true]
      exact ih
theorem lastR_rw : ∀ (n : Nat) (x : List Int), Rw n x → Rw 0 (lastR n x)
  | 0, _, h => h
  | n + 1, _, h => lastR_rw n _ h.stp
theorem steps_last : ∀ (n : Nat) (x : List Int), ∃ b, (steps (n + 1) x).getLast? = some (b, lastR (n + 1) x)
  | 0, x => ⟨(stp 0 x).1, rfl⟩
  | n + 1, x => by
    obtain ⟨b, h⟩ := steps_last n (stp (n + 1) x).2
    refine ⟨b, ?_⟩
    rw [show steps (n + 1 + 1) x = stp (n + 1) x :: steps (n + 1) (stp (n + 1) x).2 from rfl]
    rw [show lastR (n + 1 + 1) x = lastR (n + 1) (stp (n + 1) x).2 from rfl]
    rw [List.getLast?_cons, h]; rfl
theorem steps_len : ∀ (n : Nat) (x : List Int), (steps n x).length = n
  | 0, _ => rfl
  | n + 1, x => by rw [steps, List.length_cons, steps_len n]
theorem steps_rw : ∀ (n : Nat) (x : List Int), Rw n x → ∀ s ∈ steps n x, Bt s.2 ∧ s.2.length ≤ 2 ^ n
  | 0, _, _, s, hs => by cases hs
  | n + 1, x, h, s, hs => by
    have := Nat.two_pow_pos n
    rcases List.mem_cons.mp hs with z | z
    · rw [z]; exact ⟨h.stp.bt, by rw [h.stp.len, pw]; omega⟩
    · obtain ⟨a, b⟩ := steps_rw n _ h.stp s z
      exact ⟨a, by rw [pw]; omega⟩
/-! ### how many must be otherwise -/
/-- two, as often as a number has ones -/
def nw : Nat → Nat → Nat
  | 0, _ => 1
  | k + 1, l => (if l % 2 = 1 then 2 else 1) * nw k (l / 2)
def vec (N : Nat) (ps : List Int) : List Int := (List.range N).map fun (j : Nat) => if (j : Int) ∈ ps then 1 else 0
def chg (x : List Int) (ps : List Int) : List Int := (List.range x.length).map fun (j : Nat) => if (j : Int) ∈ ps then 1 - gdI x j else gdI x j
theorem vec_rw (n : Nat) (ps : List Int) : Rw n (vec (2 ^ n) ps) := ⟨by simp [vec], fun i hi => by
  obtain ⟨j, _, rfl⟩ := List.mem_map.mp hi
  split
  · exact .inr rfl
  · exact .inl rfl⟩
theorem chg_sx {n : Nat} {x : List Int} (h : Rw n x) (ps : List Int) : chg x ps = sx x (vec (2 ^ n) ps) := by
  refine List.ext_getElem (by rw [sx_len, (vec_rw n ps).len, h.len]; simp [chg, h.len]) fun i i1 i2 => ?_
  have hi : i < x.length := by simpa [chg] using i1
  have hb := bt_at h.bt hi
  simp only [sx, chg, vec, List.getElem_zipWith, List.getElem_map, List.getElem_range]
  rw [gdI_at hi]
  split <;> omega
theorem chg_rw {n : Nat} {x : List Int} (h : Rw n x) (ps : List Int) : Rw n (chg x ps) := by rw [chg_sx h]; exact h.sx (vec_rw n ps)
def words : Nat → List (List Int)
  | 0 => [[]]
  | n + 1 => (words n).flatMap fun w => [w ++ [0], w ++ [1]]
theorem words_in : ∀ (n : Nat) (w : List Int), w ∈ words n → w.length = n ∧ Bt w
  | 0, w, h => by rw [List.mem_singleton.mp h]; exact ⟨rfl, fun i hi => by cases hi⟩
  | n + 1, w, h => by
    rw [words] at h
    obtain ⟨v, hv, hw⟩ := List.mem_flatMap.mp h
    obtain ⟨h1, h2⟩ := words_in n v hv
    simp only [List.mem_cons, List.not_mem_nil, or_false] at hw
    rcases hw with rfl | rfl
    · exact ⟨by rw [List.length_append, h1]; rfl, fun i hi => by
        rcases List.mem_append.mp hi with z | z
        · exact h2 i z
        · exact .inl (List.mem_singleton.mp z)⟩
    · exact ⟨by rw [List.length_append, h1]; rfl, fun i hi => by
        rcases List.mem_append.mp hi with z | z
        · exact h2 i z
        · exact .inr (List.mem_singleton.mp z)⟩
theorem two_len {α β : Type} (f g : α → β) : ∀ ws : List α, (ws.flatMap fun w => [f w, g w]).length = 2 * ws.length
  | [] => rfl
  | w :: ws => by rw [List.flatMap_cons, List.length_append, two_len f g ws]; simp; omega
theorem words_len : ∀ n : Nat, (words n).length = 2 ^ n
  | 0 => rfl
  | n + 1 => by
    rw [words, two_len, words_len n, Nat.pow_succ]
    omega
/-- one word looked at -/
def look (q : List Int → Bool) (best : Option Int) (w : List Int) : Option Int := if (match best with | none => true | some b => decide (w.sum < b)) = true then (if q w = true then some w.sum else best) else best
def best (q : List Int → Bool) (ws : List (List Int)) : Option Int := ws.foldl (look q) none
theorem best_chk : ((List.range 4).all fun n => (List.range (2 ^ n + 1)).all fun L => decide (L = 0) || decide (best (fun w => decide (hl n w = L)) (words (2 ^ n)) = some ((nw 5 (2 ^ n - L) : Nat) : Int))) = true := by decide +kernel
theorem best_ok {n L : Nat} (hn : n ≤ 3) (h0 : 0 < L) (hL : L ≤ 2 ^ n) : best (fun w => decide (hl n w = L)) (words (2 ^ n)) = some ((nw 5 (2 ^ n - L) : Nat) : Int) := by
  have h := List.all_eq_true.mp best_chk n (List.mem_range.mpr (by omega))
  have h2 := List.all_eq_true.mp h L (List.mem_range.mpr (by omega))
  rw [Bool.or_eq_true, decide_eq_true_eq, decide_eq_true_eq] at h2
  rcases h2 with z | z
  · omega
  · exact z
theorem best_cg {q r : List Int → Bool} : ∀ (ws : List (List Int)) (b : Option Int), (∀ w ∈ ws, q w = r w) → ws.foldl (look q) b = ws.foldl (look r) b
  | [], _, _ => rfl
  | w :: ws, b, h => by
    rw [List.foldl_cons, List.foldl_cons]
    have e : look q b w = look r b w := by unfold look; rw [h w List.mem_cons_self]
    rw [e]
    exact best_cg ws _ fun v hv => h v (List.mem_cons_of_mem _ hv)
theorem fewest_ok {n : Nat} {x : List Int} (hn : n ≤ 3) (h : Rw n x) (h0 : 0 < hl n x) : best (fun w => decide (hl n (sx x w) < hl n x)) (words (2 ^ n)) = some ((nw 5 (2 ^ n - hl n x) : Nat) : Int) := by
  rw [← best_ok hn h0 (hl_le n x h)]
  refine best_cg _ _ fun w hw => ?_
  obtain ⟨a, b⟩ := words_in _ _ hw
  exact decide_eq_decide.mpr (hl_add n x w h ⟨a, b⟩ h0)
/-! ### sixteen -/
def pairs16 : List (List Int) := (List.range 16).flatMap fun (a : Nat) => (List.range a).map fun (b : Nat) => [(a : Int), (b : Int)]
theorem one_chk : ((List.range 16).all fun i => decide (hl 4 (vec 16 [(i : Int)]) = 16)) = true := by decide +kernel
theorem two_chk : ((List.range 17).all fun L => decide (L = 0) || (decide (nw 5 (16 - L) = 2) == pairs16.any fun ps => decide (hl 4 (vec 16 ps) = L))) = true := by decide +kernel
theorem nw_one : ((List.range 17).all fun L => decide (L = 0) || (decide (nw 5 (16 - L) = 1) == decide (L = 16))) = true := by decide +kernel
theorem one16 {x : List Int} (h : Rw 4 x) (h0 : 0 < hl 4 x) {i : Nat} (hi : i < 16) : hl 4 (chg x [(i : Int)]) < hl 4 x ↔ nw 5 (16 - hl 4 x) = 1 := by
  rw [chg_sx h, hl_add 4 x _ h (vec_rw 4 _) h0]
  have h1 := List.all_eq_true.mp one_chk i (List.mem_range.mpr hi)
  have h1 : hl 4 (vec (2 ^ 4) [(i : Int)]) = 16 := of_decide_eq_true h1
  have hle : hl 4 x ≤ 16 := hl_le 4 x h
  have h2 := List.all_eq_true.mp nw_one (hl 4 x) (List.mem_range.mpr (by omega))
  rw [decide_eq_false (by omega), Bool.false_or, beq_iff_eq, decide_eq_decide] at h2
  rw [h1, h2]
  exact ⟨fun e => e.symm, fun e => e.symm⟩
theorem two16 {x : List Int} (h : Rw 4 x) (h0 : 0 < hl 4 x) : (∃ ps ∈ pairs16, hl 4 (chg x ps) < hl 4 x) ↔ nw 5 (16 - hl 4 x) = 2 := by
  have hle : hl 4 x ≤ 16 := hl_le 4 x h
  have h2 := List.all_eq_true.mp two_chk (hl 4 x) (List.mem_range.mpr (by omega))
  rw [decide_eq_false (by omega), Bool.false_or, beq_iff_eq] at h2
  rw [← decide_eq_true_eq (p := nw 5 (16 - hl 4 x) = 2), h2, List.any_eq_true]
  refine exists_congr fun ps => and_congr Iff.rfl ?_
  rw [decide_eq_true_eq, chg_sx h, hl_add 4 x _ h (vec_rw 4 _) h0]
/-! ### the least pair -/
theorem ltP_irrefl (p : Int × Int) : ltP p p = false := by unfold ltP; rw [if_pos rfl]; exact decide_eq_false (by omega)
theorem ltP_trans {p q r : Int × Int} (h : ltP q p = false) (g : ltP r q = false) : ltP r p = false := by
  unfold ltP at *
  split at h <;> split at g <;> split <;> simp only [decide_eq_false_iff_not] at * <;> omega
theorem ltP_tot {p q : Int × Int} (h : ltP q p = true) : ltP p q = false := by
  unfold ltP at *
  split at h <;> split <;> simp only [decide_eq_false_iff_not, decide_eq_true_eq] at * <;> omega
theorem leastP_ok : ∀ (ps : List (Int × Int)) (p : Int × Int), leastP p ps ∈ p :: ps ∧ ∀ q ∈ p :: ps, ltP q (leastP p ps) = false
  | [], p => ⟨List.mem_cons_self, fun q hq => by rw [List.mem_singleton.mp hq]; exact ltP_irrefl p⟩
  | r :: ps, p => by
    have e : leastP p (r :: ps) = leastP (if ltP r p = true then r else p) ps := rfl
    rw [e]
    cases h : ltP r p with
    | true =>
      rw [if_pos rfl]
      obtain ⟨a, b⟩ := leastP_ok ps r
      refine ⟨List.mem_cons_of_mem _ a, fun q hq => ?_⟩
      rcases List.mem_cons.mp hq with z | z
      · rw [z]; exact ltP_trans (b r List.mem_cons_self) (ltP_tot h)
      · exact b q z
    | false =>
      rw [if_neg Bool.false_ne_true]
      obtain ⟨a, b⟩ := leastP_ok ps p
      refine ⟨?_, fun q hq => ?_⟩
      · rcases List.mem_cons.mp a with z | z
        · rw [z]; exact List.mem_cons_self
        · exact List.mem_cons_of_mem _ (List.mem_cons_of_mem _ z)
      · rcases List.mem_cons.mp hq with z | z
        · rw [z]; exact b p List.mem_cons_self
        · rcases List.mem_cons.mp z with y | y
          · rw [y]; exact ltP_trans (b p List.mem_cons_self) h
          · exact b q (List.mem_cons_of_mem _ y)
end HV

set_option maxHeartbeats 4000000
/-! NT13: lists of factors on rows; the least number of numbers of a rule that fits (Massey). -/
namespace MB
open DL
def sh (t : Nat → Int) : Nat → Int
  | 0 => 0
  | n + 1 => t n
def cv : List Int → (Nat → Int) → Nat → Int
  | [], _, _ => 0
  | c :: cs, s, n => c * s n + sh (cv cs s) n
theorem sh_add (a b : Nat → Int) (n : Nat) : sh (fun n => a n + b n) n = sh a n + sh b n := by cases n <;> rfl
theorem sh_mul (c : Int) (a : Nat → Int) (n : Nat) : sh (fun n => c * a n) n = c * sh a n := by
  cases n
  · show (0 : Int) = c * 0
    omega
  · rfl
theorem cv_add (a b : Nat → Int) : ∀ (f : List Int) (n : Nat), cv f (fun n => a n + b n) n = cv f a n + cv f b n
  | [], _ => rfl
  | c :: f, n => by
    unfold cv
    rw [show cv f (fun n => a n + b n) = fun n => cv f a n + cv f b n from funext (cv_add a b f), sh_add]
    grind
theorem cv_mul (x : Int) (a : Nat → Int) : ∀ (f : List Int) (n : Nat), cv f (fun n => x * a n) n = x * cv f a n
  | [], _ => by show (0 : Int) = x * 0; omega
  | c :: f, n => by
    unfold cv
    rw [show cv f (fun n => x * a n) = fun n => x * cv f a n from funext (cv_mul x a f), sh_mul]
    grind
theorem cv_sh (a : Nat → Int) : ∀ (f : List Int) (n : Nat), cv f (sh a) n = sh (cv f a) n
  | [], n => by cases n <;> rfl
  | c :: f, n => by
    have e : cv (c :: f) a = fun n => c * a n + sh (cv f a) n := rfl
    rw [e, sh_add (fun n => c * a n), sh_mul]
    show c * sh a n + sh (cv f (sh a)) n = _
    rw [show cv f (sh a) = sh (cv f a) from funext (cv_sh a f)]
theorem cv_zero : ∀ (f : List Int) (n : Nat), cv f (fun _ => 0) n = 0
  | [], _ => rfl
  | c :: f, n => by
    unfold cv
    rw [show cv f (fun _ => 0) = fun _ => 0 from funext (cv_zero f)]
    cases n <;> simp [sh]
theorem cv_comm (g : List Int) (s : Nat → Int) : ∀ (f : List Int) (n : Nat), cv f (cv g s) n = cv g (cv f s) n
  | [], n => by
    show (0 : Int) = cv g (fun _ => 0) n
    rw [cv_zero]
  | c :: f, n => by
    show c * cv g s n + sh (cv f (cv g s)) n = cv g (fun n => c * s n + sh (cv f s) n) n
    rw [cv_add (fun n => c * s n), cv_mul, cv_sh, show cv f (cv g s) = cv g (cv f s) from funext (cv_comm g s f)]
theorem cv_dvd {p : Int} {t : Nat → Int} : ∀ (f : List Int) (n : Nat), (∀ i, i < f.length → i ≤ n → p ∣ t (n - i)) → p ∣ cv f t n
  | [], _, _ => Int.dvd_zero p
  | c :: f, n, h => by
    unfold cv
    refine Int.dvd_add (Int.dvd_mul_of_dvd_right (h 0 (by simp) (by omega))) ?_
    cases n with
    | zero => exact Int.dvd_zero p
    | succ n =>
      refine cv_dvd f n fun i hi hn => ?_
      have := h (i + 1) (by simp; omega) (by omega)
      rwa [show n + 1 - (i + 1) = n - i by omega] at this
theorem cv_head {p : Int} {t : Nat → Int} {f : List Int} {n : Nat} (h : ∀ i, 1 ≤ i → i < f.length + 1 → i ≤ n → p ∣ t (n - i)) : p ∣ cv (1 :: f) t n - t n := by
  have e : cv (1 :: f) t n - t n = sh (cv f t) n := by
    show 1 * t n + sh (cv f t) n - t n = _
    omega
  rw [e]
  cases n with
  | zero => exact Int.dvd_zero p
  | succ n =>
    refine cv_dvd f n fun i hi hn => ?_
    have := h (i + 1) (by omega) (by omega) (by omega)
    rwa [show n + 1 - (i + 1) = n - i by omega] at this
/-- a list of factors keeps a row from a place on up to another one -/
structure Fits (p : Int) (s : Nat → Int) (n : Nat) (f : List Int) (L : Nat) : Prop where
  hd : ∃ cs, f = 1 :: cs
  len : f.length ≤ L + 1
  ok : ∀ j, L ≤ j → j < n → p ∣ cv f s j
theorem Fits.less {p : Int} {s : Nat → Int} {n L : Nat} {f : List Int} (h : Fits p s (n + 1) f L) : Fits p s n f L := ⟨h.hd, h.len, fun j a b => h.ok j a (by omega)⟩
theorem massey_key {p : Int} {s : Nat → Int} {n L M : Nat} {f g : List Int} (hf : Fits p s n f L) (off : ¬ p ∣ cv f s n) (hg : Fits p s (n + 1) g M) : n + 1 ≤ L + M := by
  refine Decidable.byContradiction fun h => off ?_
  obtain ⟨fs, rfl⟩ := hf.hd
  obtain ⟨gs, rfl⟩ := hg.hd
  have l1 := hf.len
  have l2 := hg.len
  simp only [List.length_cons] at l1 l2
  have a : p ∣ cv (1 :: gs) (cv (1 :: fs) s) n - cv (1 :: fs) s n := cv_head fun i i1 i2 i3 => hf.ok _ (by omega) (by omega)
  have b : p ∣ cv (1 :: fs) (cv (1 :: gs) s) n := cv_dvd _ n fun i i1 i2 => hg.ok _ (by simp only [List.length_cons] at i1; omega) (by omega)
  rw [cv_comm] at b
  have := Int.dvd_sub b a
  rwa [show cv (1 :: gs) (cv (1 :: fs) s) n - (cv (1 :: gs) (cv (1 :: fs) s) n - cv (1 :: fs) s n) = cv (1 :: fs) s n by omega] at this
/-! lists -/
theorem cv_app0 (s : Nat → Int) (k : Nat) : ∀ (f : List Int) (n : Nat), cv (f ++ List.replicate k 0) s n = cv f s n
  | [], n => by
    rw [List.nil_append]
    induction k generalizing n with
    | zero => rfl
    | succ k ih =>
      rw [List.replicate_succ]
      show 0 * s n + sh (cv (List.replicate k 0) s) n = 0
      cases n with
      | zero => simp [sh]
      | succ n =>
        show 0 * s (n + 1) + cv (List.replicate k 0) s n = 0
        rw [ih n]
        show 0 * s (n + 1) + 0 = 0
        omega
  | c :: f, n => by
    rw [List.cons_append]
    unfold cv
    rw [show cv (f ++ List.replicate k 0) s = cv f s from funext (cv_app0 s k f)]
theorem cv_pre (f : List Int) (s : Nat → Int) : ∀ (k n : Nat), cv (List.replicate k 0 ++ f) s n = if n < k then 0 else cv f s (n - k)
  | 0, n => by simp
  | k + 1, n => by
    rw [List.replicate_succ, List.cons_append]
    cases n with
    | zero =>
      show 0 * s 0 + 0 = _
      simp
    | succ n =>
      show 0 * s (n + 1) + cv (List.replicate k 0 ++ f) s n = _
      rw [cv_pre f s k n]
      by_cases h : n < k
      · rw [if_pos h, if_pos (by omega)]; omega
      · rw [if_neg h, if_neg (by omega), show n + 1 - (k + 1) = n - k by omega, Int.zero_mul, Int.zero_add]
theorem cv_cong {p : Int} (s : Nat → Int) : ∀ (f g : List Int) (n : Nat), f.length = g.length → (∀ i, i < f.length → p ∣ gdI f i - gdI g i) → p ∣ cv f s n - cv g s n
  | [], [], _, _, _ => ⟨0, by show (0 : Int) - 0 = p * 0; omega⟩
  | [], _ :: _, _, h, _ => by cases h
  | _ :: _, [], _, h, _ => by cases h
  | a :: f, b :: g, n, h, e => by
    have hl : f.length = g.length := by simpa using h
    have e0 : p ∣ a - b := e 0 (by simp)
    have e1 : ∀ i, i < f.length → p ∣ gdI f i - gdI g i := fun i hi => e (i + 1) (by simp; omega)
    unfold cv
    have r : p ∣ sh (cv f s) n - sh (cv g s) n := by
      cases n with
      | zero => exact ⟨0, by show (0 : Int) - 0 = p * 0; omega⟩
      | succ n => exact cv_cong s f g n hl e1
    have := Int.dvd_add (Int.dvd_mul_of_dvd_left (c := s n) e0) r
    rwa [show (a - b) * s n + (sh (cv f s) n - sh (cv g s) n) = a * s n + sh (cv f s) n - (b * s n + sh (cv g s) n) by grind] at this
theorem cv_subL (s : Nat → Int) : ∀ (f g : List Int) (n : Nat), f.length = g.length → cv (List.zipWith (fun a b => a - b) f g) s n = cv f s n - cv g s n
  | [], [], _, _ => rfl
  | [], _ :: _, _, h => by cases h
  | _ :: _, [], _, h => by cases h
  | a :: f, b :: g, n, h => by
    have hl : f.length = g.length := by simpa using h
    rw [List.zipWith_cons_cons]
    unfold cv
    cases n with
    | zero =>
      simp only [sh]
      grind
    | succ n =>
      show (a - b) * s (n + 1) + cv (List.zipWith (fun a b => a - b) f g) s n = a * s (n + 1) + cv f s n - (b * s (n + 1) + cv g s n)
      rw [cv_subL s f g n hl]
      grind
theorem cv_mulL (x : Int) (s : Nat → Int) : ∀ (f : List Int) (n : Nat), cv (f.map fun a => x * a) s n = x * cv f s n
  | [], _ => by show (0 : Int) = x * 0; omega
  | a :: f, n => by
    rw [List.map_cons]
    unfold cv
    cases n with
    | zero =>
      simp only [sh]
      grind
    | succ n =>
      show x * a * s (n + 1) + cv (f.map fun a => x * a) s n = x * (a * s (n + 1) + cv f s n)
      rw [cv_mulL x s f n]
      grind
/-- a number found as the program text sums it -/
def dsL (f : List Int) (s : Nat → Int) (n : Nat) : List Int := ((List.range f.length).filter fun i => decide (i ≤ n)).map fun i => gdI f i * s (n - i)
theorem ds_ok (s : Nat → Int) : ∀ (f : List Int) (n : Nat), (dsL f s n).sum = cv f s n
  | [], _ => rfl
  | c :: f, n => by
    unfold dsL
    rw [List.length_cons, List.range_succ_eq_map, List.filter_cons, if_pos (by simp), List.map_cons, List.sum_cons, List.filter_map, List.map_map]
    show c * s (n - 0) + _ = c * s n + _
    rw [Nat.sub_zero]
    congr 1
    cases n with
    | zero =>
      have : (List.range f.length).filter ((fun i => decide (i ≤ 0)) ∘ Nat.succ) = [] := List.filter_eq_nil_iff.mpr fun i _ => by simp
      rw [this]; rfl
    | succ n =>
      show _ = cv f s n
      rw [← ds_ok s f n]
      unfold dsL
      have e : (List.range f.length).filter ((fun i => decide (i ≤ n + 1)) ∘ Nat.succ) = (List.range f.length).filter fun i => decide (i ≤ n) := List.filter_congr fun i _ => by simp
      rw [e]
      congr 1
      refine List.map_congr_left fun i _ => ?_
      show gdI (c :: f) (i + 1) * s (n + 1 - (i + 1)) = gdI f i * s (n - i)
      rw [show n + 1 - (i + 1) = n - i by omega]
      rfl
/-- the next list of factors -/
def stepL (p d b : Int) (gap : Nat) (B : List Int) : List Int := List.replicate gap 0 ++ B.map fun x => (d * b * x) % p
def nowL (p d b : Int) (gap : Nat) (C B : List Int) : List Int :=
  let w := max C.length (stepL p d b gap B).length
  (List.zipWith (fun x y => (x - y) % p) (C ++ List.replicate w 0) ((stepL p d b gap B ++ List.replicate w 0).take w)).take w
theorem zipW_take {α β γ : Type} (g : α → β → γ) : ∀ (xs : List α) (ys : List β), List.zipWith g xs ys = List.zipWith g (xs.take ys.length) ys
  | [], ys => by simp
  | x :: xs, [] => by simp
  | x :: xs, y :: ys => by
    rw [List.zipWith_cons_cons, List.length_cons, List.take_succ_cons, List.zipWith_cons_cons, ← zipW_take g xs ys]
theorem pad_take (f : List Int) (w : Nat) (h : f.length ≤ w) : (f ++ List.replicate w 0).take w = f ++ List.replicate (w - f.length) 0 := by
  rw [List.take_append, List.take_of_length_le h, List.take_replicate, Nat.min_eq_left (by omega)]
theorem now_eq (p d b : Int) (gap : Nat) (C B : List Int) (w : Nat) (hw : w = max C.length (stepL p d b gap B).length) :
    nowL p d b gap C B = List.zipWith (fun x y => (x - y) % p) (C ++ List.replicate (w - C.length) 0) (stepL p d b gap B ++ List.replicate (w - (stepL p d b gap B).length) 0) := by
  unfold nowL
  rw [← hw]
  dsimp only
  rw [pad_take _ _ (by omega), zipW_take, List.length_append, List.length_replicate, show (stepL p d b gap B).length + (w - (stepL p d b gap B).length) = w by omega, pad_take _ _ (by omega)]
  refine List.take_of_length_le ?_
  rw [List.length_zipWith, List.length_append, List.length_append, List.length_replicate, List.length_replicate]
  omega
theorem now_len (p d b : Int) (gap : Nat) (C B : List Int) : (nowL p d b gap C B).length = max C.length (gap + B.length) := by
  rw [now_eq p d b gap C B _ rfl, List.length_zipWith]
  simp only [List.length_append, List.length_replicate, stepL, List.length_map]
  omega
theorem zipW_gdI (g : Int → Int → Int) (f h : List Int) {i : Nat} (hl : f.length = h.length) (hi : i < f.length) : gdI (List.zipWith g f h) i = g (gdI f i) (gdI h i) := by
  rw [gdI_at (by rw [List.length_zipWith]; omega), List.getElem_zipWith, gdI_at hi, gdI_at (by omega)]
theorem now_rs {p : Int} (hp : 0 < p) (d b : Int) (gap : Nat) (C B : List Int) : ∀ x ∈ nowL p d b gap C B, 0 ≤ x ∧ x < p := fun x hx => by
  rw [now_eq p d b gap C B _ rfl] at hx
  obtain ⟨i, hi, rfl⟩ := List.mem_iff_getElem.mp hx
  rw [List.getElem_zipWith]
  exact ⟨Int.emod_nonneg _ (by omega), Int.emod_lt_of_pos _ hp⟩
theorem now_cv {p : Int} (d b : Int) (gap : Nat) (C B : List Int) (s : Nat → Int) (n : Nat) : p ∣ cv (nowL p d b gap C B) s n - (cv C s n - d * b * (if n < gap then 0 else cv B s (n - gap))) := by
  rw [now_eq p d b gap C B _ rfl]
  generalize hw : max C.length (stepL p d b gap B).length = w
  have l1 : (C ++ List.replicate (w - C.length) 0).length = w := by rw [List.length_append, List.length_replicate]; omega
  have l2 : (stepL p d b gap B ++ List.replicate (w - (stepL p d b gap B).length) 0).length = w := by rw [List.length_append, List.length_replicate]; omega
  have e1 := cv_app0 s (w - C.length) C n
  have e2 := cv_app0 s (w - (stepL p d b gap B).length) (stepL p d b gap B) n
  generalize C ++ List.replicate (w - C.length) 0 = X at l1 e1 ⊢
  generalize stepL p d b gap B ++ List.replicate (w - (stepL p d b gap B).length) 0 = Y at l2 e2 ⊢
  have a : p ∣ cv (List.zipWith (fun x y => (x - y) % p) X Y) s n - cv (List.zipWith (fun x y => x - y) X Y) s n := by
    refine cv_cong s _ _ n (by simp) fun i hi => ?_
    have hi' : i < X.length := by rw [List.length_zipWith] at hi; omega
    rw [zipW_gdI _ _ _ (by omega) hi', zipW_gdI _ _ _ (by omega) hi']
    have := Int.dvd_self_sub_emod (x := gdI X i - gdI Y i) (m := p)
    rw [show (gdI X i - gdI Y i) % p - (gdI X i - gdI Y i) = -((gdI X i - gdI Y i) - (gdI X i - gdI Y i) % p) by omega]
    exact (Int.dvd_neg).mpr this
  rw [cv_subL s X Y n (by omega), e1, e2] at a
  have c : p ∣ cv (stepL p d b gap B) s n - d * b * (if n < gap then 0 else cv B s (n - gap)) := by
    unfold stepL
    rw [cv_pre]
    by_cases h : n < gap
    · rw [if_pos h, if_pos h]
      exact ⟨0, by grind⟩
    · rw [if_neg h, if_neg h, ← cv_mulL]
      refine cv_cong s _ _ _ (by simp) fun i hi => ?_
      have hi' : i < B.length := by simpa using hi
      rw [gdI_at (by simpa using hi'), gdI_at (by simpa using hi'), List.getElem_map, List.getElem_map]
      have := Int.dvd_self_sub_emod (x := d * b * B[i]) (m := p)
      rw [show (d * b * B[i]) % p - d * b * B[i] = -(d * b * B[i] - (d * b * B[i]) % p) by omega]
      exact (Int.dvd_neg).mpr this
  have := Int.dvd_sub a c
  generalize (if n < gap then (0 : Int) else cv B s (n - gap)) = U at this ⊢
  generalize d * b * U = V at this ⊢
  have z := this
  rw [show ∀ W : Int, W - (cv C s n - cv (stepL p d b gap B) s n) - (cv (stepL p d b gap B) s n - V) = W - (cv C s n - V) by intro W; omega] at z
  exact z
theorem now_head {p : Int} (h2 : 2 ≤ p) (d b : Int) {gap : Nat} (hg : 1 ≤ gap) (C B : List Int) : ∃ cs, nowL p d b gap (1 :: C) B = 1 :: cs := by
  rw [now_eq p d b gap (1 :: C) B _ rfl]
  obtain ⟨g, rfl⟩ : ∃ g, gap = g + 1 := ⟨gap - 1, by omega⟩
  unfold stepL
  rw [List.replicate_succ, List.cons_append, List.cons_append, List.cons_append, List.zipWith_cons_cons]
  rw [show ((1 : Int) - 0) % p = 1 from Int.emod_eq_of_lt (by omega) (by omega)]
  exact ⟨_, rfl⟩
/-- where the search stands in front of a place -/
structure MS (p : Int) (s : Nat → Int) (n : Nat) (C B : List Int) (L gap : Nat) (last : Int) : Prop where
  fit : Fits p s n C L
  cr : ∀ x ∈ C, 0 ≤ x ∧ x < p
  br : ∀ x ∈ B, 0 ≤ x ∧ x < p
  bl : ∃ M, B.length ≤ M + 1 ∧ M + gap + L = n + 1 ∧ ∀ j, M ≤ j → j + gap < n → p ∣ cv B s j
  off : gap ≤ n → p ∣ cv B s (n - gap) - last
  bh : ∃ cs, B = 1 :: cs
  gap1 : 1 ≤ gap
  l0 : 0 < last
  l1 : last < p
  least : ∀ g M, Fits p s n g M → L ≤ M
theorem ms_first {p : Int} (h2 : 2 ≤ p) (s : Nat → Int) : MS p s 0 [1] [1] 0 1 1 where
  fit := ⟨⟨[], rfl⟩, by simp, fun j _ h => absurd h (by omega)⟩
  cr := fun x hx => by rw [List.mem_singleton.mp hx]; omega
  br := fun x hx => by rw [List.mem_singleton.mp hx]; omega
  bl := ⟨0, by simp, rfl, fun j _ h => absurd h (by omega)⟩
  off := fun h => absurd h (by omega)
  bh := ⟨[], rfl⟩
  gap1 := by omega
  l0 := by omega
  l1 := by omega
  least := fun g M _ => by omega
theorem MS.same {p : Int} {s : Nat → Int} {n : Nat} {C B : List Int} {L gap : Nat} {last : Int} (h : MS p s n C B L gap last) (z : p ∣ cv C s n) : MS p s (n + 1) C B L (gap + 1) last where
  fit := ⟨h.fit.hd, h.fit.len, fun j a b => by
    rcases Nat.lt_or_ge j n with c | c
    · exact h.fit.ok j a c
    · obtain rfl : j = n := by omega
      exact z⟩
  cr := h.cr
  br := h.br
  bl := by
    obtain ⟨M, a, b, c⟩ := h.bl
    exact ⟨M, a, by omega, fun j x y => c j x (by omega)⟩
  off := fun g => by
    rw [show n + 1 - (gap + 1) = n - gap by omega]
    exact h.off (by omega)
  bh := h.bh
  gap1 := by omega
  l0 := h.l0
  l1 := h.l1
  least := fun g M f => h.least g M f.less
theorem MS.next {p : Int} {s : Nat → Int} {n : Nat} {C B : List Int} {L gap : Nat} {last d b : Int} (h2 : 2 ≤ p) (h : MS p s n C B L gap last) (hd : d = cv C s n % p) (hd0 : d ≠ 0) (hb : last * b % p = 1) :
    (2 * L ≤ n → MS p s (n + 1) (nowL p d b gap C B) C (n + 1 - L) 1 d) ∧ (¬ 2 * L ≤ n → MS p s (n + 1) (nowL p d b gap C B) B L (gap + 1) last) := by
  have off0 : ¬ p ∣ cv C s n := fun z => hd0 (by rw [hd]; exact Int.emod_eq_zero_of_dvd z)
  have d0 : 0 ≤ d := by rw [hd]; exact Int.emod_nonneg _ (by omega)
  have d1 : d < p := by rw [hd]; exact Int.emod_lt_of_pos _ (by omega)
  have hcd : p ∣ cv C s n - d := by rw [hd]; exact Int.dvd_self_sub_emod
  obtain ⟨M, bl, bs, bz⟩ := h.bl
  have cl := h.fit.len
  have lst : ∀ g K, Fits p s (n + 1) g K → L ≤ K ∧ n + 1 ≤ L + K := fun g K f => ⟨h.least g K f.less, massey_key h.fit off0 f⟩
  have hd' : ∃ cs, nowL p d b gap C B = 1 :: cs := by
    obtain ⟨cs, rfl⟩ := h.fit.hd
    exact now_head h2 d b h.gap1 cs B
  have nl := now_len p d b gap C B
  have nr := now_rs (p := p) (by omega) d b gap C B
  -- behind the last place of both, all is kept
  have key : ∀ j, L ≤ j → M + gap ≤ j → j < n + 1 → p ∣ cv (nowL p d b gap C B) s j := fun j a1 a2 a3 => by
    have e := now_cv (p := p) d b gap C B s j
    rw [if_neg (by omega)] at e
    have f : p ∣ cv C s j - d * b * cv B s (j - gap) := by
      rcases Nat.lt_or_ge j n with c | c
      · exact Int.dvd_sub (h.fit.ok j a1 c) (Int.dvd_mul_of_dvd_right (bz _ (by omega) (by omega)))
      · obtain rfl : j = n := by omega
        have o := h.off (by omega)
        have o2 : p ∣ d * b * cv B s (j - gap) - d * b * last := by
          rw [show d * b * cv B s (j - gap) - d * b * last = d * b * (cv B s (j - gap) - last) by grind]
          exact Int.dvd_mul_of_dvd_right o
        have o3 : p ∣ d * b * last - d := by
          have : p ∣ last * b - 1 := by
            have := Int.dvd_self_sub_emod (x := last * b) (m := p)
            rwa [hb] at this
          rw [show d * b * last - d = d * (last * b - 1) by grind]
          exact Int.dvd_mul_of_dvd_right this
        have := Int.dvd_sub (Int.dvd_sub hcd o2) o3
        rwa [show ∀ X Y Z : Int, X - d - (Y - Z) - (Z - d) = X - Y by intros; omega] at this
    have := Int.dvd_add e f
    rwa [show ∀ X Y : Int, X - Y + Y = X by intros; omega] at this
  have bd : n + 1 - L = M + gap := by omega
  constructor
  · intro hc
    refine ⟨⟨hd', by rw [nl]; omega, fun j a1 a2 => key j (by omega) (by omega) a2⟩, nr, h.cr, ⟨L, cl, by omega, fun j a1 a2 => h.fit.ok j a1 (by omega)⟩, fun _ => by rw [show n + 1 - 1 = n by omega]; exact hcd, h.fit.hd, by omega, by omega, d1, fun g K f => ?_⟩
    have := lst g K f
    omega
  · intro hc
    refine ⟨⟨hd', by rw [nl]; omega, fun j a1 a2 => key j (by omega) (by omega) a2⟩, nr, h.br, ⟨M, bl, by omega, fun j a1 a2 => bz j a1 (by omega)⟩, fun g => by rw [show n + 1 - (gap + 1) = n - gap by omega]; exact h.off (by omega), h.bh, by omega, h.l0, h.l1, fun g K f => (lst g K f).1⟩
theorem MS.le {p : Int} {s : Nat → Int} {n : Nat} {C B : List Int} {L gap : Nat} {last : Int} (h : MS p s n C B L gap last) : L + gap ≤ n + 1 := by
  obtain ⟨M, _, e, _⟩ := h.bl
  omega
theorem MS.leB {p : Int} {s : Nat → Int} {n : Nat} {C B : List Int} {L gap : Nat} {last : Int} (h : MS p s n C B L gap last) : B.length + gap + L ≤ n + 2 := by
  obtain ⟨M, a, e, _⟩ := h.bl
  omega
end MB

set_option maxHeartbeats 4000000
/-! NT14: the length by halves is the least number of numbers of a rule that the list twice keeps. -/
namespace GC
open DL HV MB
/-- differences, so often -/
def dl : Nat → (Nat → Int) → Nat → Int
  | 0, t => t
  | k + 1, t => fun n => dl k t (n + 1) + dl k t n
def dz (k : Nat) (t : Nat → Int) : Prop := ∀ n, (2 : Int) ∣ dl k t n
theorem dl_add (b : Nat) (t : Nat → Int) : ∀ a, dl (a + b) t = dl a (dl b t)
  | 0 => by rw [Nat.zero_add]; rfl
  | a + 1 => by
    rw [show a + 1 + b = (a + b) + 1 by omega]
    show (fun n => dl (a + b) t (n + 1) + dl (a + b) t n) = fun n => dl a (dl b t) (n + 1) + dl a (dl b t) n
    rw [dl_add b t a]
theorem dl_cong {t u : Nat → Int} (h : ∀ n, (2 : Int) ∣ t n - u n) : ∀ k n, (2 : Int) ∣ dl k t n - dl k u n
  | 0, n => h n
  | k + 1, n => by
    have a := dl_cong h k (n + 1)
    have b := dl_cong h k n
    show (2 : Int) ∣ dl k t (n + 1) + dl k t n - (dl k u (n + 1) + dl k u n)
    omega
theorem dz_cong {t u : Nat → Int} (h : ∀ n, (2 : Int) ∣ t n - u n) (k : Nat) : dz k t ↔ dz k u := ⟨fun z n => by have := dl_cong h k n; have := z n; omega, fun z n => by have := dl_cong h k n; have := z n; omega⟩
theorem dz_more {t : Nat → Int} {k : Nat} (h : dz k t) (j : Nat) : dz (j + k) t := by
  induction j with
  | zero => rw [Nat.zero_add]; exact h
  | succ j ih =>
    intro n
    rw [show j + 1 + k = (j + k) + 1 by omega]
    show (2 : Int) ∣ dl (j + k) t (n + 1) + dl (j + k) t n
    exact Int.dvd_add (ih _) (ih _)
theorem frob (t : Nat → Int) : ∀ m n, (2 : Int) ∣ dl (2 ^ m) t n - (t (n + 2 ^ m) + t n)
  | 0, n => by
    show (2 : Int) ∣ t (n + 1) + t n - (t (n + 1) + t n)
    omega
  | m + 1, n => by
    rw [pw, dl_add]
    have a := frob (dl (2 ^ m) t) m n
    have b := frob t m n
    have c := frob t m (n + 2 ^ m)
    rw [show n + (2 ^ m + 2 ^ m) = n + 2 ^ m + 2 ^ m by omega]
    omega
/-- the list round and round -/
def pr (x : List Int) (i : Nat) : Int := gdI x (i % x.length)
theorem gdI_app (a b : List Int) (i : Nat) : gdI (a ++ b) i = if i < a.length then gdI a i else gdI b (i - a.length) := by
  unfold gdI
  rw [List.getElem?_append]
  split <;> rfl
theorem gdI_take {x : List Int} {k i : Nat} (h : i < k) : gdI (x.take k) i = gdI x i := by
  unfold gdI
  rw [List.getElem?_take, if_pos h]
theorem gdI_drop (x : List Int) (k i : Nat) : gdI (x.drop k) i = gdI x (k + i) := by
  unfold gdI
  rw [List.getElem?_drop]
theorem mod2 {i N : Nat} (h : 0 < N) : i % (N + N) = i % N ∨ i % (N + N) = i % N + N := by
  have a : i % (N + N) < N + N := Nat.mod_lt _ (by omega)
  have b : i % (N + N) % N = i % N := Nat.mod_mod_of_dvd i ⟨2, by omega⟩
  rcases Nat.lt_or_ge (i % (N + N)) N with c | c
  · left
    rw [← b, Nat.mod_eq_of_lt c]
  · right
    have : (i % (N + N) - N) % N = i % N := by
      rw [← b]
      have : i % (N + N) = (i % (N + N) - N) + N := by omega
      conv => rhs; rw [this, Nat.add_mod_right]
    rw [Nat.mod_eq_of_lt (by omega)] at this
    omega
theorem pr_same {m : Nat} {x : List Int} (h : Rw (m + 1) x) (e : aH m x = bH m x) (i : Nat) : pr x i = pr (aH m x) i := by
  have hp := Nat.two_pow_pos m
  unfold pr
  rw [h.len, h.a.len, pw]
  have t : i % 2 ^ m < 2 ^ m := Nat.mod_lt _ hp
  rcases mod2 (i := i) hp with c | c
  · rw [c]
    unfold aH
    rw [gdI_take t]
  · rw [c, e]
    unfold bH
    rw [gdI_drop, Nat.add_comm]
theorem pr_sum {m : Nat} {x : List Int} (h : Rw (m + 1) x) (i : Nat) : pr (sH m x) i = (pr x (i + 2 ^ m) + pr x i) % 2 := by
  have hp := Nat.two_pow_pos m
  have t : i % 2 ^ m < 2 ^ m := Nat.mod_lt _ hp
  have l1 := h.a.len
  have l2 := h.b.len
  unfold pr
  rw [h.len, h.s.len, pw]
  unfold sH sx
  rw [zipW_gdI _ _ _ (by omega) (by omega)]
  unfold aH bH
  rw [gdI_take t, gdI_drop]
  have q : (i + 2 ^ m) % (2 ^ m + 2 ^ m) = i % 2 ^ m + 2 ^ m ∧ i % (2 ^ m + 2 ^ m) = i % 2 ^ m ∨ (i + 2 ^ m) % (2 ^ m + 2 ^ m) = i % 2 ^ m ∧ i % (2 ^ m + 2 ^ m) = i % 2 ^ m + 2 ^ m := by
    rcases mod2 (i := i) hp with c | c
    · left
      refine ⟨?_, c⟩
      rw [Nat.add_mod, c, Nat.mod_eq_of_lt (show 2 ^ m < 2 ^ m + 2 ^ m by omega), Nat.mod_eq_of_lt (by omega)]
    · right
      refine ⟨?_, c⟩
      rw [Nat.add_mod, c, Nat.mod_eq_of_lt (show 2 ^ m < 2 ^ m + 2 ^ m by omega), show i % 2 ^ m + 2 ^ m + 2 ^ m = i % 2 ^ m + (2 ^ m + 2 ^ m) by omega, Nat.add_mod_right, Nat.mod_eq_of_lt (by omega)]
  rcases q with ⟨a, b⟩ | ⟨a, b⟩
  · rw [a, b, Nat.add_comm (2 ^ m)]
    omega
  · rw [a, b, Nat.add_comm (2 ^ m)]
theorem ord_ok : ∀ (m : Nat) (x : List Int), Rw m x → dz (hl m x) (pr x) ∧ ∀ k, dz k (pr x) → hl m x ≤ k
  | 0, x, h => by
    have l : x.length = 1 := h.len
    have e : ∀ i, pr x i = gdI x 0 := fun i => by unfold pr; rw [l, Nat.mod_one]
    have b : gdI x 0 = 0 ∨ gdI x 0 = 1 := by rw [gdI_at (by omega)]; exact bt_at h.bt (by omega)
    have eh : hl 0 x = (gdI x 0).toNat := rfl
    rcases b with b | b
    · rw [eh, b]
      refine ⟨fun n => ?_, fun k _ => Nat.zero_le _⟩
      show (2 : Int) ∣ pr x n
      rw [e, b]
      omega
    · rw [eh, b]
      refine ⟨fun n => ?_, fun k hk => ?_⟩
      · show (2 : Int) ∣ pr x (n + 1) + pr x n
        rw [e, e, b]
        omega
      · cases k with
        | zero =>
          have : (2 : Int) ∣ pr x 0 := hk 0
          rw [e, b] at this
          omega
        | succ k => show (1 : Nat) ≤ k + 1; omega
  | m + 1, x, h => by
    have hp := Nat.two_pow_pos m
    unfold hl
    by_cases hs : has (sH m x) = true
    · rw [if_pos hs]
      obtain ⟨i1, i2⟩ := ord_ok m _ h.s
      have tr : ∀ k, dz (k + 2 ^ m) (pr x) ↔ dz k (pr (sH m x)) := fun k => by
        have : dz (k + 2 ^ m) (pr x) ↔ dz k (dl (2 ^ m) (pr x)) := by unfold dz; rw [dl_add]
        rw [this]
        refine dz_cong (fun n => ?_) k
        have a := frob (pr x) m n
        rw [pr_sum h]
        omega
      refine ⟨?_, fun k hk => ?_⟩
      · rw [Nat.add_comm]
        exact (tr _).mpr i1
      · rcases Nat.lt_or_ge k (2 ^ m) with c | c
        · have a : dz (2 ^ m) (pr x) := by
            have := dz_more hk (2 ^ m - k)
            rwa [show 2 ^ m - k + k = 2 ^ m by omega] at this
          have b := i2 0 ((tr 0).mp (by rw [Nat.zero_add]; exact a))
          have := hl_pos m _ h.s hs
          omega
        · have a := i2 (k - 2 ^ m) ((tr _).mp (by rw [show k - 2 ^ m + 2 ^ m = k by omega]; exact hk))
          omega
    · rw [if_neg hs]
      obtain ⟨i1, i2⟩ := ord_ok m _ h.a
      have hs' : has (sH m x) = false := by simpa using hs
      have e := sx_same h.a.bt h.b.bt (by rw [h.a.len, h.b.len]) hs'
      have f : ∀ n, (2 : Int) ∣ pr x n - pr (aH m x) n := fun n => by rw [pr_same h e]; omega
      exact ⟨(dz_cong f _).mpr i1, fun k hk => i2 k ((dz_cong f _).mp hk)⟩
/-! ### a list of factors that keeps it -/
def binL : Nat → List Int
  | 0 => [1]
  | k + 1 => List.zipWith (fun a b => a + b) (binL k ++ [0]) (0 :: binL k)
theorem binL_len : ∀ k, (binL k).length = k + 1
  | 0 => rfl
  | k + 1 => by
    unfold binL
    have := binL_len k
    rw [List.length_zipWith, List.length_append, List.length_cons, List.length_cons, List.length_nil]
    omega
theorem binL_hd : ∀ k, ∃ cs, binL k = 1 :: cs
  | 0 => ⟨[], rfl⟩
  | k + 1 => by
    obtain ⟨cs, e⟩ := binL_hd k
    unfold binL
    rw [e, List.cons_append, List.zipWith_cons_cons]
    exact ⟨_, rfl⟩
theorem cv_addL (s : Nat → Int) : ∀ (f g : List Int) (n : Nat), f.length = g.length → cv (List.zipWith (fun a b => a + b) f g) s n = cv f s n + cv g s n
  | [], [], _, _ => rfl
  | [], _ :: _, _, h => by cases h
  | _ :: _, [], _, h => by cases h
  | a :: f, b :: g, n, h => by
    have hl : f.length = g.length := by simpa using h
    rw [List.zipWith_cons_cons]
    unfold cv
    cases n with
    | zero =>
      simp only [sh]
      grind
    | succ n =>
      show (a + b) * s (n + 1) + cv (List.zipWith (fun a b => a + b) f g) s n = a * s (n + 1) + cv f s n + (b * s (n + 1) + cv g s n)
      rw [cv_addL s f g n hl]
      grind
theorem binL_cv (s : Nat → Int) : ∀ (k n : Nat), k ≤ n → cv (binL k) s n = dl k s (n - k)
  | 0, n, _ => by
    show 1 * s n + sh (cv [] s) n = s n
    cases n with
    | zero => show 1 * s 0 + 0 = s 0; omega
    | succ n => show 1 * s (n + 1) + 0 = s (n + 1); omega
  | k + 1, n, h => by
    unfold binL
    rw [cv_addL _ _ _ _ (by simp), show ([0] : List Int) = List.replicate 1 0 from rfl, cv_app0, binL_cv s k n (by omega)]
    obtain ⟨m, rfl⟩ : ∃ m, n = m + 1 := ⟨n - 1, by omega⟩
    show dl k s (m + 1 - k) + (0 * s (m + 1) + cv (binL k) s m) = dl k s (m + 1 - (k + 1) + 1) + dl k s (m + 1 - (k + 1))
    rw [binL_cv s k m (by omega), show m + 1 - (k + 1) = m - k by omega, show m - k + 1 = m + 1 - k by omega]
    omega
/-! ### no shorter one -/
def Kl (g : List Int) (t : Nat → Int) : Prop := ∀ j, g.length ≤ j + 1 → (2 : Int) ∣ cv g t j
theorem cv_up (t : Nat → Int) : ∀ (g : List Int) (j : Nat), g.length ≤ j + 1 → cv g (fun n => t (n + 1)) j = cv g t (j + 1)
  | [], _, _ => rfl
  | c :: g, j, h => by
    simp only [List.length_cons] at h
    show c * t (j + 1) + sh (cv g fun n => t (n + 1)) j = c * t (j + 1) + cv g t j
    cases j with
    | zero =>
      have : g = [] := List.length_eq_zero_iff.mp (by omega)
      subst this
      rfl
    | succ j =>
      show c * t (j + 1 + 1) + cv g (fun n => t (n + 1)) j = _
      rw [cv_up t g j (by omega)]
theorem Kl.dl1 {g : List Int} {t : Nat → Int} (h : Kl g t) : Kl g (dl 1 t) := fun j hj => by
  show (2 : Int) ∣ cv g (fun n => t (n + 1) + t n) j
  rw [cv_add (fun n => t (n + 1)) t, cv_up t g j hj]
  exact Int.dvd_add (h _ (by omega)) (h _ hj)
theorem dl_one (t : Nat → Int) (k : Nat) : dl (k + 1) t = dl 1 (dl k t) := by rw [Nat.add_comm, dl_add]
theorem Kl.dlk {g : List Int} {t : Nat → Int} (h : Kl g t) : ∀ k, Kl g (dl k t)
  | 0 => h
  | k + 1 => by rw [dl_one]; exact (Kl.dlk h k).dl1
theorem const_of {u : Nat → Int} (h : dz 1 u) : ∀ n, (2 : Int) ∣ u n - u 0
  | 0 => by omega
  | n + 1 => by
    have a := const_of h n
    have b : (2 : Int) ∣ u (n + 1) + u n := h n
    omega
theorem cv_const {u : Nat → Int} (h : ∀ n, (2 : Int) ∣ u n - u 0) : ∀ (g : List Int) (j : Nat), g.length ≤ j + 1 → (2 : Int) ∣ cv g u j - g.sum * u 0
  | [], _, _ => by
    show (2 : Int) ∣ 0 - 0 * u 0
    omega
  | c :: g, j, hl => by
    simp only [List.length_cons] at hl
    have a : (2 : Int) ∣ c * u j - c * u 0 := by
      have := Int.dvd_mul_of_dvd_right (b := c) (h j)
      rwa [Int.mul_sub] at this
    have b : (2 : Int) ∣ sh (cv g u) j - g.sum * u 0 := by
      cases j with
      | zero =>
        have : g = [] := List.length_eq_zero_iff.mp (by omega)
        subst this
        show (2 : Int) ∣ 0 - 0 * u 0
        omega
      | succ j => exact cv_const h g j (by omega)
    show (2 : Int) ∣ c * u j + sh (cv g u) j - (c :: g).sum * u 0
    rw [List.sum_cons, Int.add_mul]
    omega
/-- parted by 1 + x -/
def hs (a : Int) : List Int → List Int
  | [] => []
  | [_] => []
  | c :: c' :: cs => (a + c) :: hs (a + c) (c' :: cs)
theorem hs_len : ∀ (a : Int) (g : List Int), (hs a g).length = g.length - 1
  | _, [] => rfl
  | _, [_] => rfl
  | a, c :: c' :: cs => by
    unfold hs
    rw [List.length_cons, hs_len]
    simp
theorem hs_cv (t : Nat → Int) : ∀ (g : List Int) (a : Int) (j : Nat), g ≠ [] → g.length ≤ j + 1 → (2 : Int) ∣ a * t (j + 1) + cv g t j - (a * (t (j + 1) + t j) + sh (cv (hs a g) (dl 1 t)) j + (a + g.sum) * t (j + 1 - g.length))
  | [], _, _, h, _ => absurd rfl h
  | [c], a, j, _, _ => by
    have e1 : cv [c] t j = c * t j := by
      show c * t j + sh (cv [] t) j = _
      cases j <;> simp [sh, cv]
    have e2 : sh (cv (hs a [c]) (dl 1 t)) j = 0 := by cases j <;> rfl
    have e3 : j + 1 - [c].length = j := by simp
    rw [e1, e2, e3, List.sum_cons, List.sum_nil]
    refine ⟨-(a * t j), ?_⟩
    grind
  | c :: c' :: cs, a, j, _, h => by
    simp only [List.length_cons] at h
    obtain ⟨i, rfl⟩ : ∃ i, j = i + 1 := ⟨j - 1, by omega⟩
    have ih := hs_cv t (c' :: cs) (a + c) i (by simp) (by simp only [List.length_cons]; omega)
    have e1 : cv (c :: c' :: cs) t (i + 1) = c * t (i + 1) + cv (c' :: cs) t i := rfl
    have e2 : sh (cv (hs a (c :: c' :: cs)) (dl 1 t)) (i + 1) = (a + c) * (t (i + 1) + t i) + sh (cv (hs (a + c) (c' :: cs)) (dl 1 t)) i := rfl
    rw [e1, e2]
    rw [show i + 1 + 1 - (c :: c' :: cs).length = i + 1 - (c' :: cs).length by simp only [List.length_cons]; omega, show (c :: c' :: cs).sum = c + (c' :: cs).sum from List.sum_cons]
    generalize cv (c' :: cs) t i = X at ih ⊢
    generalize sh (cv (hs (a + c) (c' :: cs)) (dl 1 t)) i = Y at ih ⊢
    generalize t (i + 1 - (c' :: cs).length) = Z at ih ⊢
    generalize (c' :: cs).sum = S at ih ⊢
    obtain ⟨q, hq⟩ := ih
    refine ⟨q - a * t (i + 1), ?_⟩
    grind
theorem kill_dz : ∀ (L : Nat) (g : List Int) (t : Nat → Int) (K : Nat), (∃ cs, g = 1 :: cs) → g.length ≤ L + 1 → Kl g t → dz K t → dz L t := by
  have odd : ∀ (g : List Int) (t : Nat → Int), ¬ (2 : Int) ∣ g.sum → Kl g t → ∀ K, dz K t → dz 0 t := by
    intro g t ho hk K
    induction K with
    | zero => exact fun h => h
    | succ K ih =>
      intro h
      refine ih fun n => ?_
      have u1 : dz 1 (dl K t) := by unfold dz; rw [← dl_one]; exact h
      have uc := const_of u1
      have a := hk.dlk K g.length (by omega)
      have b := cv_const uc g g.length (by omega)
      have c := uc n
      have d : (2 : Int) ∣ g.sum * dl K t 0 := by omega
      have e : (2 : Int) ∣ dl K t 0 := by
        rcases Int.emod_two_eq (dl K t 0) with z | z
        · omega
        · exfalso
          apply ho
          have := Int.mul_emod g.sum (dl K t 0) 2
          rw [z, Int.mul_one, Int.emod_emod] at this
          have := Int.emod_eq_zero_of_dvd d
          omega
      omega
  intro L
  induction L with
  | zero =>
    rintro g t K ⟨cs, rfl⟩ hl hk hz
    have : cs = [] := List.length_eq_zero_iff.mp (by simp only [List.length_cons] at hl; omega)
    subst this
    exact odd [1] t (by decide) hk K hz
  | succ L ih =>
    rintro g t K ⟨cs, rfl⟩ hl hk hz
    by_cases ho : (2 : Int) ∣ (1 :: cs).sum
    · cases cs with
      | nil => exact absurd ho (by decide)
      | cons c cs =>
        have h1 : Kl (hs 0 (1 :: c :: cs)) (dl 1 t) := fun j hj => by
          rw [hs_len] at hj
          simp only [List.length_cons] at hj
          have a := hs_cv t (1 :: c :: cs) 0 (j + 1) (by simp) (by simp only [List.length_cons]; omega)
          have b := hk (j + 1) (by simp only [List.length_cons]; omega)
          have e : sh (cv (hs 0 (1 :: c :: cs)) (dl 1 t)) (j + 1) = cv (hs 0 (1 :: c :: cs)) (dl 1 t) j := rfl
          rw [e] at a
          have d : (2 : Int) ∣ (0 + (1 :: c :: cs).sum) * t (j + 1 + 1 - (1 :: c :: cs).length) := by
            rw [Int.zero_add]
            exact Int.dvd_mul_of_dvd_left ho
          rw [Int.zero_mul, Int.zero_mul] at a
          omega
        have h2 : dz L (dl 1 t) := by
          refine ih (hs 0 (1 :: c :: cs)) (dl 1 t) K ⟨_, rfl⟩ (by rw [hs_len]; simp only [List.length_cons] at hl ⊢; omega) h1 fun n => ?_
          have := dz_more hz 1
          have e : dl K (dl 1 t) = dl (1 + K) t := by rw [← dl_add, Nat.add_comm]
          rw [e]
          exact this n
        intro n
        rw [dl_add]
        exact h2 n
    · have := dz_more (odd _ t ho hk K hz) (L + 1)
      exact this
/-- the row of the list twice -/
def tw (x : List Int) (i : Nat) : Int := gdI (x ++ x) i
theorem tw_pr {x : List Int} {i : Nat} (h : i < x.length + x.length) : tw x i = pr x i := by
  unfold tw pr
  rw [gdI_app]
  by_cases c : i < x.length
  · rw [if_pos c, Nat.mod_eq_of_lt c]
  · rw [if_neg c, Nat.mod_eq_sub_mod (by omega), Nat.mod_eq_of_lt (by omega)]
theorem cv_ext {s t : Nat → Int} : ∀ (f : List Int) (n : Nat), (∀ i, i ≤ n → s i = t i) → cv f s n = cv f t n
  | [], _, _ => rfl
  | c :: f, n, h => by
    unfold cv
    rw [h n (by omega)]
    cases n with
    | zero => rfl
    | succ n => exact congrArg _ (cv_ext f n fun i hi => h i (by omega))
theorem cv_round {x : List Int} : ∀ (f : List Int) (j : Nat), f.length ≤ j + 1 → cv f (pr x) (j + x.length) = cv f (pr x) j
  | [], _, _ => rfl
  | c :: f, j, h => by
    simp only [List.length_cons] at h
    have e : pr x (j + x.length) = pr x j := by unfold pr; rw [Nat.add_mod_right]
    cases j with
    | zero =>
      have : f = [] := List.length_eq_zero_iff.mp (by omega)
      subst this
      show c * pr x (0 + x.length) + sh (cv [] (pr x)) (0 + x.length) = c * pr x 0 + 0
      rw [e]
      cases 0 + x.length <;> rfl
    | succ j =>
      have e' : j + 1 + x.length = (j + x.length) + 1 := by omega
      rw [e'] at e ⊢
      show c * pr x (j + x.length + 1) + cv f (pr x) (j + x.length) = c * pr x (j + 1) + cv f (pr x) j
      rw [e, cv_round f j (by omega)]
/-- the least number of numbers -/
theorem hl_fits {m : Nat} {x : List Int} (h : Rw m x) : Fits 2 (tw x) (x ++ x).length (binL (hl m x)) (hl m x) where
  hd := binL_hd _
  len := by rw [binL_len]; omega
  ok := fun j a b => by
    rw [List.length_append] at b
    rw [cv_ext (t := pr x) _ j fun i hi => tw_pr (by omega), binL_cv _ _ _ a]
    exact (ord_ok m x h).1 _
theorem hl_least {m : Nat} {x : List Int} (h : Rw m x) {g : List Int} {L : Nat} (f : Fits 2 (tw x) (x ++ x).length g L) : hl m x ≤ L := by
  have hN := h.len
  have hle := hl_le m x h
  rcases Nat.lt_or_ge L (2 ^ m) with c | c
  · refine (ord_ok m x h).2 L ?_
    have ln := f.len
    refine kill_dz L g (pr x) (hl m x) f.hd f.len (fun j hj => ?_) (ord_ok m x h).1
    have ok : ∀ j, L ≤ j → (2 : Int) ∣ cv g (pr x) j := by
      intro j
      induction j using Nat.strongRecOn with
      | ind j ih =>
        intro hj
        rcases Nat.lt_or_ge j (2 * 2 ^ m) with d | d
        · have := f.ok j hj (by rw [List.length_append]; omega)
          rwa [cv_ext (t := pr x) _ j fun i hi => tw_pr (by omega)] at this
        · have a := ih (j - 2 ^ m) (by omega) (by omega)
          rw [← cv_round g (j - 2 ^ m) (by omega), show j - 2 ^ m + x.length = j by omega] at a
          exact a
    -- a place so near the beginning is as one a round on
    have e : cv g (pr x) (j + L * x.length) = cv g (pr x) j := by
      have : ∀ q, cv g (pr x) (j + q * x.length) = cv g (pr x) j := by
        intro q
        induction q with
        | zero => rw [Nat.zero_mul, Nat.add_zero]
        | succ q ih => rw [Nat.succ_mul, ← Nat.add_assoc, cv_round g _ (by omega), ih]
      exact this L
    rw [← e]
    refine ok _ ?_
    have : L * 1 ≤ L * x.length := Nat.mul_le_mul_left L (by have := Nat.two_pow_pos m; omega)
    omega
  · omega
end GC

set_option maxHeartbeats 4000000
namespace Lk62
open PySem PySem.Spec PyProof.Rows L2 DL HV
local macro_rules | `(tactic| infer_instance) => `(tactic| repeat (first | (with_reducible (first | refine Stp.h ?_ | refine StpS.h ?_ | refine d_mod (by omega) ?_ | refine d_mul (mul60 (by omega) (by omega)) ?_ | refine d_div (divL (by omega) (by omega) (by omega)) ?_ | refine i_LI (by omega) (by omega) ?_ | refine i_SI (by omega) (by omega) ?_ | refine q_sz (leZ (by with_unfolding_all rfl)) ?_ | refine q_rng (by omega) (by omega) ?_ | refine q_rng2 ?_ (by omega) | refine q_szI (by omega) ?_ | refine q_szL (by first | omega | (simp only [List.length_append, List.length_map, List.length_cons, List.length_nil, List.length_range, List.length_take, List.length_drop, List.length_zipWith]; omega)) ?_ | refine q_szM (by first | omega | (simp only [List.length_append, List.length_map, List.length_cons, List.length_nil, List.length_range, List.length_take, List.length_drop, List.length_zipWith]; omega)) ?_ | refine q_rfl (by with_unfolding_all rfl) ?_ | refine q_kc (by with_unfolding_all rfl) (by with_unfolding_all rfl) (by with_unfolding_all rfl) ?_ | refine q_unp (by simp only [setTs, List.map_cons, List.map_nil, List.set_cons_zero, List.set_cons_succ, fl_int]; rfl) ?_ | refine q_bind (by simp only [bindT, setTs, wipeF, List.map_cons, List.map_nil, List.set_cons_zero, List.set_cons_succ, fl_int]; rfl) ?_ | refine s_asgS2 (by simp only [view, List.map_cons, List.map_nil, vw_l, vw_k, vw_kt, vw_v, vw_sep, vw_no, seq_scal, sc_int, sc_lst, sc_tup, sc_strm, sc_str, sc_bl, sc_non]; rfl) ?_ | refine s_asgV2 (by simp only [view, List.map_cons, List.map_nil, vw_l, vw_k, vw_kt, vw_v, vw_sep, vw_no, seq_scal, sc_int, sc_lst, sc_tup, sc_strm, sc_str, sc_bl, sc_non]; rfl) ?_ | refine s_parS2 (by simp only [view, List.map_cons, List.map_nil, vw_l, vw_k, vw_kt, vw_v, vw_sep, vw_no, seq_scal, sc_int, sc_lst, sc_tup, sc_strm, sc_str, sc_bl, sc_non]; rfl) ?_ | refine e_sc2 (by simp only [view, List.map_cons, List.map_nil, vw_l, vw_k, vw_kt, vw_v, vw_sep, vw_no, seq_scal, sc_int, sc_lst, sc_tup, sc_strm, sc_str, sc_bl, sc_non]; rfl) ?_ | refine q_dpos rfl ?_ | refine q_nneg rfl ?_ | refine q_dpos (by omega) ?_ | refine q_dneg (by omega) ?_ | refine q_npos (by omega) ?_ | refine q_nneg (by omega) ?_ | refine q_dneg (by decide +kernel) ?_ | refine q_npos (by decide +kernel) ?_ | dsimp only)) | (refine q_is (by simp only [isTs, isT, D.ty, kit_NoneType_int, kit_NoneType_bool, kit_NoneType_str, kit_NoneType_list, kit_NoneType_tuple, kit_NoneType_dict, kit_bool_int, kit_bool_bool, kit_bool_str, kit_bool_list, kit_bool_tuple, kit_bool_dict, kit_int_int, kit_int_bool, kit_int_str, kit_int_list, kit_int_tuple, kit_int_dict, kit_str_int, kit_str_bool, kit_str_str, kit_str_list, kit_str_tuple, kit_str_dict, kit_list_int, kit_list_bool, kit_list_str, kit_list_list, kit_list_tuple, kit_list_dict, kit_tuple_int, kit_tuple_bool, kit_tuple_str, kit_tuple_list, kit_tuple_tuple, kit_tuple_dict, kit_dict_int, kit_dict_bool, kit_dict_str, kit_dict_list, kit_dict_tuple, kit_dict_dict]; rfl) ?_)))
local macro_rules | `(tactic| nofun) => `(tactic| repeat (first | (with_reducible (first | refine Stp.h ?_ | refine d_mod (by omega) ?_ | refine d_mul (mul60 (by omega) (by omega)) ?_ | refine d_div (divL (by omega) (by omega) (by omega)) ?_ | refine i_LI (by omega) (by omega) ?_ | refine i_SI (by omega) (by omega) ?_ | refine q_sz (leZ (by with_unfolding_all rfl)) ?_ | refine q_rng (by omega) (by omega) ?_ | refine q_rng2 ?_ (by omega) | refine q_szI (by omega) ?_ | refine q_szL (by first | omega | (simp only [List.length_append, List.length_map, List.length_cons, List.length_nil, List.length_range, List.length_take, List.length_drop, List.length_zipWith]; omega)) ?_ | refine q_szM (by first | omega | (simp only [List.length_append, List.length_map, List.length_cons, List.length_nil, List.length_range, List.length_take, List.length_drop, List.length_zipWith]; omega)) ?_ | refine q_rfl (by with_unfolding_all rfl) ?_ | refine q_kc (by with_unfolding_all rfl) (by with_unfolding_all rfl) (by with_unfolding_all rfl) ?_ | refine q_unp (by simp only [setTs, List.map_cons, List.map_nil, List.set_cons_zero, List.set_cons_succ, fl_int]; rfl) ?_ | refine q_bind (by simp only [bindT, setTs, wipeF, List.map_cons, List.map_nil, List.set_cons_zero, List.set_cons_succ, fl_int]; rfl) ?_ | refine s_asgS2 (by simp only [view, List.map_cons, List.map_nil, vw_l, vw_k, vw_kt, vw_v, vw_sep, vw_no, seq_scal, sc_int, sc_lst, sc_tup, sc_strm, sc_str, sc_bl, sc_non]; rfl) ?_ | refine s_asgV2 (by simp only [view, List.map_cons, List.map_nil, vw_l, vw_k, vw_kt, vw_v, vw_sep, vw_no, seq_scal, sc_int, sc_lst, sc_tup, sc_strm, sc_str, sc_bl, sc_non]; rfl) ?_ | refine s_parS2 (by simp only [view, List.map_cons, List.map_nil, vw_l, vw_k, vw_kt, vw_v, vw_sep, vw_no, seq_scal, sc_int, sc_lst, sc_tup, sc_strm, sc_str, sc_bl, sc_non]; rfl) ?_ | refine e_sc2 (by simp only [view, List.map_cons, List.map_nil, vw_l, vw_k, vw_kt, vw_v, vw_sep, vw_no, seq_scal, sc_int, sc_lst, sc_tup, sc_strm, sc_str, sc_bl, sc_non]; rfl) ?_ | refine q_dpos rfl ?_ | refine q_nneg rfl ?_ | refine q_dpos (by omega) ?_ | refine q_dneg (by omega) ?_ | refine q_npos (by omega) ?_ | refine q_nneg (by omega) ?_ | refine q_dneg (by decide +kernel) ?_ | refine q_npos (by decide +kernel) ?_ | dsimp only)) | (refine q_is (by simp only [isTs, isT, D.ty, kit_NoneType_int, kit_NoneType_bool, kit_NoneType_str, kit_NoneType_list, kit_NoneType_tuple, kit_NoneType_dict, kit_bool_int, kit_bool_bool, kit_bool_str, kit_bool_list, kit_bool_tuple, kit_bool_dict, kit_int_int, kit_int_bool, kit_int_str, kit_int_list, kit_int_tuple, kit_int_dict, kit_str_int, kit_str_bool, kit_str_str, kit_str_list, kit_str_tuple, kit_str_dict, kit_list_int, kit_list_bool, kit_list_str, kit_list_list, kit_list_tuple, kit_list_dict, kit_tuple_int, kit_tuple_bool, kit_tuple_str, kit_tuple_list, kit_tuple_tuple, kit_tuple_dict, kit_dict_int, kit_dict_bool, kit_dict_str, kit_dict_list, kit_dict_tuple, kit_dict_dict]; rfl) ?_)))
theorem zip_eq (g : Int → Int → Int) : ∀ xs ys : List Int, (List.zip xs ys).map (fun q => g q.1 q.2) = List.zipWith g xs ys
  | [], _ => rfl
  | _ :: _, [] => rfl
  | x :: xs, y :: ys => by rw [List.zip_cons_cons, List.map_cons, List.zipWith_cons_cons, zip_eq g xs ys]
theorem in_ints (m : Int) : ∀ ns : List Int, inV (D.int m).toV ((ns.map D.int).map D.toV) = decide (m ∈ ns)
  | [] => rfl
  | n :: ns => by
    have ih := in_ints m ns
    show (eqV (V.int n) (V.int m) || inV (D.int m).toV ((ns.map D.int).map D.toV)) = _
    rw [ih]
    unfold eqV
    rw [Bool.eq_iff_iff, Bool.or_eq_true, beq_iff_eq, decide_eq_true_eq, decide_eq_true_eq, List.mem_cons]
    exact or_congr ⟨fun e => e.symm, fun e => e.symm⟩ Iff.rfl
theorem c_inL {m : Int} {ns : List Int} {k : Bool → Prop} (h : k (decide (m ∈ ns))) : cmpD .In (.int m) (.lst (ns.map D.int)) k := ⟨rfl, scal_ints ns, by rw [in_ints]; exact h⟩
theorem gd_bits {t : Bool} {ns : List Int} (h : Bt ns) (hl : ns.length ≤ 200) : Gd (seqD t ns) := by
  obtain ⟨a, b⟩ := gd_scal2 (ys := ns.map D.int) (fun y hy => by
    obtain ⟨i, hi, rfl⟩ := List.mem_map.mp hy
    have := h i hi
    exact ⟨int_wf2 (by omega) (by omega), rfl⟩) (by rw [List.length_map]; omega)
  cases t
  · exact a
  · exact b
theorem fWhole (d n : Nat) (k : KE) (i : Int) (hk : k (.bl true, true) n) : evF T (d + 1) 1 [.int i] n k := by
  refine f_go (F := F1) rfl rfl ?_
  simp only [F1, startF, List.map_cons, List.map_nil, List.length_cons, List.length_nil, Nat.reduceAdd, Nat.reduceSub, List.replicate_succ, List.replicate_zero, List.cons_append, List.nil_append, seq_scal, sc_int, sc_lst, sc_tup, sc_strm, sc_str, sc_bl, sc_non]
  infer_instance
  exact hk
theorem two_le {n m : Nat} (h : n ≤ m) : 2 ^ n ≤ 2 ^ m := Nat.pow_le_pow_right (by decide) h
theorem fPow (d n : Nat) (k : KE) (m : Nat) (hm : m ≤ 6) (hk : k (.bl true, true) n) : evF T (d + 1) 2 [.int (2 ^ m : Nat)] n k := by
  refine f_go (F := F2) rfl rfl ?_
  simp only [F2, startF, List.map_cons, List.map_nil, List.length_cons, List.length_nil, Nat.reduceAdd, Nat.reduceSub, List.replicate_succ, List.replicate_zero, List.cons_append, List.nil_append, seq_scal, sc_int, sc_lst, sc_tup, sc_strm, sc_str, sc_bl, sc_non]
  infer_instance
  refine s_whl (fun z f n' => n' = n ∧ z ≤ 6 ∧ f = [.v (.int (2 ^ z : Nat)) true]) (m := m) ⟨rfl, hm, rfl⟩ ?_
  rintro z f n' W ⟨rfl, hz, rfl⟩ hW
  cases z with
  | zero =>
    have e : ((2 ^ 0 : Nat) : Int) = 1 := rfl
    rw [e]
    infer_instance
    exact hk
  | succ z =>
    have hp := two_le (show z ≤ 6 by omega)
    have e : 2 ^ (z + 1) = 2 * 2 ^ z := by rw [Nat.pow_succ]; omega
    have hW2 := hW z [.v (.int (2 ^ z : Nat)) true] n' (by omega) ⟨rfl, by omega, rfl⟩
    rw [e]
    generalize 2 ^ z = P at hp hW2
    infer_instance
    have e2 : ((2 * P : Nat) : Int) / 2 = (P : Int) := by omega
    rw [e2]
    exact hW2
theorem fCheck (d n : Nat) (k : KE) (t : Bool) (ns : List Int) (m : Nat) (h : Rw m ns) (hm : m ≤ 6) (hk : k (.non, true) n) : evF T (d + 2) 3 [seqD t ns] n k := by
  have hl := h.len
  have hp := Nat.two_pow_pos m
  have hp2 := two_le hm
  refine f_go (F := F3) rfl rfl ?_
  simp only [F3, startF, List.map_cons, List.map_nil, List.length_cons, List.length_nil, Nat.reduceAdd, Nat.reduceSub, List.replicate_succ, List.replicate_zero, List.cons_append, List.nil_append, seq_scal, sc_int, sc_lst, sc_tup, sc_strm, sc_str, sc_bl, sc_non]
  infer_instance
  refine isList_ok (tb := T) (g := 0) rfl d _ _ (seqD t ns) (gd_bits h.bt (by omega)).gd ?_
  have e : (isSeq (seqD t ns)).isSome = true := by cases t <;> rfl
  rw [e]
  infer_instance
  rw [hl]
  refine fPow d _ _ m hm ?_
  infer_instance
  refine cg_map (fun _ => .bl true) (by omega) (fun i hi k hk => ?_) ?_
  · have hb := h.bt i hi
    infer_instance
    refine fWhole d _ _ i ?_
    infer_instance
    have c : ∀ k : Bool → Prop, k true → cmpD .In (.int i) (.tup [.int 0, .int 1]) k := fun k hk => by
      refine ⟨rfl, rfl, ?_⟩
      have : inV (D.int i).toV ([D.int 0, D.int 1].map D.toV) = true := by rcases hb with rfl | rfl <;> rfl
      rw [this]; exact hk
    refine c _ ?_
    exact hk
  · infer_instance
    refine ⟨_, bls_true _, ?_⟩
    have ea : (ns.map fun _ => true).all id = true := by
      rw [List.all_eq_true]
      intro b hb
      obtain ⟨_, _, rfl⟩ := List.mem_map.mp hb
      rfl
    rw [ea]
    infer_instance
    exact hk
def wd (b : Bool) : D := .str (if b = true then Str.ofString "unlike" else Str.ofString "like")
def stD (s : Bool × List Int) : D := .tup [wd s.1, .lst (s.2.map D.int)]
def stsD (n : Nat) (x : List Int) : D := .lst ((steps n x).map stD)
theorem stD_t (r : List Int) : stD (true, r) = .tup [.str (Str.ofString "unlike"), .lst (r.map D.int)] := rfl
theorem stD_f (r : List Int) : stD (false, r) = .tup [.str (Str.ofString "like"), .lst (r.map D.int)] := rfl
theorem cut_a {w : Nat} {x : List Int} : DL.cutD (x.map D.int) none (some ((2 ^ w : Nat) : Int)) = (aH w x).map D.int := by
  rw [cut_to, ← List.map_take]; rfl
theorem cut_b {w : Nat} {x : List Int} : DL.cutD (x.map D.int) (some ((2 ^ w : Nat) : Int)) none = (bH w x).map D.int := by
  rw [cut_from, ← List.map_drop]; rfl
theorem fStepsT (d n : Nat) (k : KE) (t : Bool) (ns : List Int) (m : Nat) (h : Rw m ns) (hm : m ≤ 6) (hk : k (stsD m ns, true) n) : evF T (d + 1) 4 [seqD t ns] n k := by
  have hl := h.len
  refine f_go (F := F4) rfl rfl ?_
  simp only [F4, startF, List.map_cons, List.map_nil, List.length_cons, List.length_nil, Nat.reduceAdd, Nat.reduceSub, List.replicate_succ, List.replicate_zero, List.cons_append, List.nil_append, seq_scal, sc_int, sc_lst, sc_tup, sc_strm, sc_str, sc_bl, sc_non]
  infer_instance
  refine s_whl (fun z f n' => n' = n ∧ z ≤ 6 ∧ ∃ x acc y3 y4 y5 c, Rw z x ∧ acc ++ steps z x = steps m ns ∧ acc.length ≤ 6 ∧ f = [.v (seqD t ns) false, .l (acc.map stD) true, .v (.lst (x.map D.int)) c, y3, y4, y5, .no, .no]) (m := m) ⟨rfl, hm, ns, [], _, _, _, _, h, rfl, by decide, rfl⟩ ?_
  rintro z f n' W ⟨rfl, hz, x, acc, y3, y4, y5, c, hx, hs, hacc, rfl⟩ hW
  have hxl := hx.len
  cases z with
  | zero =>
    infer_instance
    rw [show steps 0 x = [] from rfl, List.append_nil] at hs
    have e : stsD m ns = .lst (acc.map stD) := by unfold stsD; rw [← hs]
    rw [← e]
    exact hk
  | succ w =>
    have hp := two_le (show w ≤ 5 by omega)
    have hpos := Nat.two_pow_pos w
    have e := pw w
    have al := hx.a.len
    have bl := hx.b.len
    have hal : acc.length + 1 ≤ 6 := by
      have := congrArg List.length hs
      rw [List.length_append, steps_len, steps_len] at this
      omega
    infer_instance
    have e2 : (x.length : Int) / 2 = ((2 ^ w : Nat) : Int) := by rw [hxl, e]; omega
    rw [e2]
    infer_instance
    rw [cut_a, cut_b, zip_items]
    refine cg_ints (fun q => (q.1 + q.2) % 2) (by rw [List.length_zip]; omega) (fun q hq k hk => ?_) ?_
    · infer_instance
      exact hk
    rw [zip_eq (fun a b => (a + b) % 2), fls_ints]
    have es : List.zipWith (fun a b => (a + b) % 2) (aH w x) (bH w x) = sH w x := rfl
    rw [es]
    infer_instance
    refine c_inL ?_
    have eh : decide ((1 : Int) ∈ sH w x) = has (sH w x) := rfl
    rw [eh]
    have hst : acc ++ (stp w x :: steps w (stp w x).2) = steps m ns := hs
    cases hh : has (sH w x) with
    | true =>
      have e3 : stp w x = (true, sH w x) := by unfold stp; rw [if_pos hh]
      rw [e3] at hst
      infer_instance
      have e4 : acc.map stD ++ [D.tup [.str (Str.ofString "unlike"), .lst ((sH w x).map D.int)]] = (acc ++ [(true, sH w x)]).map stD := by rw [List.map_append]; rfl
      rw [e4]
      simp only [fls_ints, Bool.and_true, Bool.true_and, Bool.and_self]
      exact hW w _ _ (by omega) ⟨rfl, by omega, sH w x, acc ++ [(true, sH w x)], _, _, _, _, hx.s, by rw [List.append_assoc]; exact hst, by rw [List.length_append]; exact hal, rfl⟩
    | false =>
      have e3 : stp w x = (false, aH w x) := by unfold stp; rw [if_neg (by rw [hh]; exact Bool.false_ne_true)]
      rw [e3] at hst
      infer_instance
      rw [cut_a]
      infer_instance
      have e4 : acc.map stD ++ [D.tup [.str (Str.ofString "like"), .lst ((aH w x).map D.int)]] = (acc ++ [(false, aH w x)]).map stD := by rw [List.map_append]; rfl
      rw [e4]
      simp only [fls_ints, Bool.and_true, Bool.true_and, Bool.and_self]
      exact hW w _ _ (by omega) ⟨rfl, by omega, aH w x, acc ++ [(false, aH w x)], _, _, _, _, hx.a, by rw [List.append_assoc]; exact hst, by rw [List.length_append]; exact hal, rfl⟩
theorem fSteps (d n : Nat) (k : KE) (t : Bool) (ns : List Int) (m : Nat) (h : Rw m ns) (hm : m ≤ 6) (hk : ∀ c, k (stsD m ns, c) n) : evF T (d + 1) 4 [seqD t ns] n k := fStepsT d n k t ns m h hm (hk true)
end Lk62

set_option maxHeartbeats 4000000
namespace Lk62
open PySem PySem.Spec PyProof.Rows L2 DL HV
local macro_rules | `(tactic| infer_instance) => `(tactic| repeat (first | (with_reducible (first | refine Stp.h ?_ | refine StpS.h ?_ | refine d_mod (by omega) ?_ | refine d_mul (mul60 (by omega) (by omega)) ?_ | refine d_div (divL (by omega) (by omega) (by omega)) ?_ | refine i_LI (by omega) (by omega) ?_ | refine i_SI (by omega) (by omega) ?_ | refine q_sz (leZ (by with_unfolding_all rfl)) ?_ | refine q_rng (by omega) (by omega) ?_ | refine q_rng2 ?_ (by omega) | refine q_szI (by omega) ?_ | refine q_szL (by first | omega | (simp only [List.length_append, List.length_map, List.length_cons, List.length_nil, List.length_range, List.length_take, List.length_drop, List.length_zipWith]; omega)) ?_ | refine q_szM (by first | omega | (simp only [List.length_append, List.length_map, List.length_cons, List.length_nil, List.length_range, List.length_take, List.length_drop, List.length_zipWith]; omega)) ?_ | refine q_rfl (by with_unfolding_all rfl) ?_ | refine q_kc (by with_unfolding_all rfl) (by with_unfolding_all rfl) (by with_unfolding_all rfl) ?_ | refine q_unp (by simp only [setTs, List.map_cons, List.map_nil, List.set_cons_zero, List.set_cons_succ, fl_int]; rfl) ?_ | refine q_bind (by simp only [bindT, setTs, wipeF, List.map_cons, List.map_nil, List.set_cons_zero, List.set_cons_succ, fl_int]; rfl) ?_ | refine s_asgS2 (by simp only [view, List.map_cons, List.map_nil, vw_l, vw_k, vw_kt, vw_v, vw_sep, vw_no, seq_scal, sc_int, sc_lst, sc_tup, sc_strm, sc_str, sc_bl, sc_non]; rfl) ?_ | refine s_asgV2 (by simp only [view, List.map_cons, List.map_nil, vw_l, vw_k, vw_kt, vw_v, vw_sep, vw_no, seq_scal, sc_int, sc_lst, sc_tup, sc_strm, sc_str, sc_bl, sc_non]; rfl) ?_ | refine s_parS2 (by simp only [view, List.map_cons, List.map_nil, vw_l, vw_k, vw_kt, vw_v, vw_sep, vw_no, seq_scal, sc_int, sc_lst, sc_tup, sc_strm, sc_str, sc_bl, sc_non]; rfl) ?_ | refine e_sc2 (by simp only [view, List.map_cons, List.map_nil, vw_l, vw_k, vw_kt, vw_v, vw_sep, vw_no, seq_scal, sc_int, sc_lst, sc_tup, sc_strm, sc_str, sc_bl, sc_non]; rfl) ?_ | refine q_dpos rfl ?_ | refine q_nneg rfl ?_ | refine q_dpos (by omega) ?_ | refine q_dneg (by omega) ?_ | refine q_npos (by omega) ?_ | refine q_nneg (by omega) ?_ | refine q_dneg (by decide +kernel) ?_ | refine q_npos (by decide +kernel) ?_ | dsimp only)) | (refine q_is (by simp only [isTs, isT, D.ty, kit_NoneType_int, kit_NoneType_bool, kit_NoneType_str, kit_NoneType_list, kit_NoneType_tuple, kit_NoneType_dict, kit_bool_int, kit_bool_bool, kit_bool_str, kit_bool_list, kit_bool_tuple, kit_bool_dict, kit_int_int, kit_int_bool, kit_int_str, kit_int_list, kit_int_tuple, kit_int_dict, kit_str_int, kit_str_bool, kit_str_str, kit_str_list, kit_str_tuple, kit_str_dict, kit_list_int, kit_list_bool, kit_list_str, kit_list_list, kit_list_tuple, kit_list_dict, kit_tuple_int, kit_tuple_bool, kit_tuple_str, kit_tuple_list, kit_tuple_tuple, kit_tuple_dict, kit_dict_int, kit_dict_bool, kit_dict_str, kit_dict_list, kit_dict_tuple, kit_dict_dict]; rfl) ?_)))
local macro_rules | `(tactic| nofun) => `(tactic| repeat (first | (with_reducible (first | refine Stp.h ?_ | refine d_mod (by omega) ?_ | refine d_mul (mul60 (by omega) (by omega)) ?_ | refine d_div (divL (by omega) (by omega) (by omega)) ?_ | refine i_LI (by omega) (by omega) ?_ | refine i_SI (by omega) (by omega) ?_ | refine q_sz (leZ (by with_unfolding_all rfl)) ?_ | refine q_rng (by omega) (by omega) ?_ | refine q_rng2 ?_ (by omega) | refine q_szI (by omega) ?_ | refine q_szL (by first | omega | (simp only [List.length_append, List.length_map, List.length_cons, List.length_nil, List.length_range, List.length_take, List.length_drop, List.length_zipWith]; omega)) ?_ | refine q_szM (by first | omega | (simp only [List.length_append, List.length_map, List.length_cons, List.length_nil, List.length_range, List.length_take, List.length_drop, List.length_zipWith]; omega)) ?_ | refine q_rfl (by with_unfolding_all rfl) ?_ | refine q_kc (by with_unfolding_all rfl) (by with_unfolding_all rfl) (by with_unfolding_all rfl) ?_ | refine q_unp (by simp only [setTs, List.map_cons, List.map_nil, List.set_cons_zero, List.set_cons_succ, fl_int]; rfl) ?_ | refine q_bind (by simp only [bindT, setTs, wipeF, List.map_cons, List.map_nil, List.set_cons_zero, List.set_cons_succ, fl_int]; rfl) ?_ | refine s_asgS2 (by simp only [view, List.map_cons, List.map_nil, vw_l, vw_k, vw_kt, vw_v, vw_sep, vw_no, seq_scal, sc_int, sc_lst, sc_tup, sc_strm, sc_str, sc_bl, sc_non]; rfl) ?_ | refine s_asgV2 (by simp only [view, List.map_cons, List.map_nil, vw_l, vw_k, vw_kt, vw_v, vw_sep, vw_no, seq_scal, sc_int, sc_lst, sc_tup, sc_strm, sc_str, sc_bl, sc_non]; rfl) ?_ | refine s_parS2 (by simp only [view, List.map_cons, List.map_nil, vw_l, vw_k, vw_kt, vw_v, vw_sep, vw_no, seq_scal, sc_int, sc_lst, sc_tup, sc_strm, sc_str, sc_bl, sc_non]; rfl) ?_ | refine e_sc2 (by simp only [view, List.map_cons, List.map_nil, vw_l, vw_k, vw_kt, vw_v, vw_sep, vw_no, seq_scal, sc_int, sc_lst, sc_tup, sc_strm, sc_str, sc_bl, sc_non]; rfl) ?_ | refine q_dpos rfl ?_ | refine q_nneg rfl ?_ | refine q_dpos (by omega) ?_ | refine q_dneg (by omega) ?_ | refine q_npos (by omega) ?_ | refine q_nneg (by omega) ?_ | refine q_dneg (by decide +kernel) ?_ | refine q_npos (by decide +kernel) ?_ | dsimp only)) | (refine q_is (by simp only [isTs, isT, D.ty, kit_NoneType_int, kit_NoneType_bool, kit_NoneType_str, kit_NoneType_list, kit_NoneType_tuple, kit_NoneType_dict, kit_bool_int, kit_bool_bool, kit_bool_str, kit_bool_list, kit_bool_tuple, kit_bool_dict, kit_int_int, kit_int_bool, kit_int_str, kit_int_list, kit_int_tuple, kit_int_dict, kit_str_int, kit_str_bool, kit_str_str, kit_str_list, kit_str_tuple, kit_str_dict, kit_list_int, kit_list_bool, kit_list_str, kit_list_list, kit_list_tuple, kit_list_dict, kit_tuple_int, kit_tuple_bool, kit_tuple_str, kit_tuple_list, kit_tuple_tuple, kit_tuple_dict, kit_dict_int, kit_dict_bool, kit_dict_str, kit_dict_list, kit_dict_tuple, kit_dict_dict]; rfl) ?_)))
theorem st_wf {s : Bool × List Int} (h : Bt s.2) (hl : s.2.length ≤ 64) : (stD s).wf = true ∧ (stD s).dep ≤ 2 := by
  obtain ⟨b, r⟩ := s
  have w1 : (D.str (Str.ofString "unlike")).wf = true := str_wf (by decide +kernel) (by decide +kernel)
  have w2 : (D.str (Str.ofString "like")).wf = true := str_wf (by decide +kernel) (by decide +kernel)
  obtain ⟨a1, a2, _, _⟩ := scals (r.map D.int) fun y hy => by
    obtain ⟨i, hi, rfl⟩ := List.mem_map.mp hy
    have := h i hi
    exact ⟨int_wf2 (by omega) (by omega), rfl⟩
  have hw : (D.lst (r.map D.int)).wf = true := by
    unfold D.wf
    rw [a1, List.length_map, decide_eq_true (show r.length ≤ 1000 by have : r.length ≤ 64 := hl; omega)]; rfl
  have hd : (D.lst (r.map D.int)).dep ≤ 1 := by unfold D.dep; omega
  have hw2 : (wd b).wf = true := by cases b; exact w2; exact w1
  have hd2 : (wd b).dep = 0 := by cases b <;> rfl
  constructor
  · show D.wf (.tup [wd b, .lst (r.map D.int)]) = true
    unfold D.wf D.wfs D.wfs D.wfs
    rw [hw, hw2]; rfl
  · show D.dep (.tup [wd b, .lst (r.map D.int)]) ≤ 2
    unfold D.dep D.deps D.deps D.deps
    omega
theorem sts_wf : ∀ ss : List (Bool × List Int), (∀ s ∈ ss, Bt s.2 ∧ s.2.length ≤ 64) → D.wfs (ss.map stD) = true ∧ D.deps (ss.map stD) ≤ 2
  | [], _ => ⟨rfl, by decide⟩
  | s :: ss, h => by
    obtain ⟨a, b⟩ := sts_wf ss fun z hz => h z (List.mem_cons_of_mem _ hz)
    obtain ⟨c, e⟩ := st_wf (h s List.mem_cons_self).1 (h s List.mem_cons_self).2
    rw [List.map_cons]
    unfold D.wfs D.deps
    rw [a, c]
    exact ⟨rfl, by omega⟩
theorem ne_emp {x : D} {xs : List D} {k : Bool → Prop} (hw : (D.lst (x :: xs)).wf = true) (hd : (D.lst (x :: xs)).dep ≤ 60) (h : k true) : cmpD .NotEq (.lst (x :: xs)) (.lst []) k := by
  obtain ⟨p, e, s⟩ := shaped_gd hw hd
  have e2 : (D.lst []).toP = some (.list []) := rfl
  refine c_neP e e2 s (by decide) ?_
  have e3 : (D.toPs (x :: xs)).map PyData.list = some p := e
  obtain ⟨ps, h1, h2⟩ := Option.map_eq_some_iff.mp e3
  subst h2
  cases ps with
  | nil =>
    exfalso
    unfold D.toPs at h1
    split at h1
    · cases h1
    · cases h1
  | cons q qs =>
    have : PyData.eqv (.list (q :: qs)) (.list []) = false := by simp [PyData.eqv, PyData.eqvAll]
    rw [this]
    exact h
theorem i_last {xs : List D} {x : D} {b c : Bool} {k : DB → Prop} (h : xs.getLast? = some x) (hk : k (x, fl b x)) : idxD (.lst xs, b) (.int (-1), c) k := by
  refine ⟨x, ?_, hk⟩
  have hl : 1 ≤ xs.length := by
    cases xs with
    | nil => cases h
    | cons _ _ => rw [List.length_cons]; omega
  have := atNeg (xs := xs) (j := 1) (by omega) hl
  rw [show (-1 : Int) = -((1 : Nat) : Int) from rfl, this, ← List.getLast?_eq_getElem?, h]
/-- the sum of the rows that are unlike, and the last number -/
def lenK (n : Nat) (ns : List Int) : Int := (((steps n ns).filter fun s => s.1).map fun s => (s.2.length : Int)).sum
theorem lenK_hl {n : Nat} {ns : List Int} (h : Rw n ns) : lenK n ns + gdI (lastR n ns) 0 = (hl n ns : Int) := (hl_steps n ns h).symm
theorem fLen (d n : Nat) (k : KE) (t : Bool) (ns : List Int) (m : Nat) (h : Rw m ns) (hm : m ≤ 6) (hk : k (.int (hl m ns : Nat), true) n) : evF T (d + 2) 6 [seqD t ns] n k := by
  have hl := h.len
  have e0 := lenK_hl h
  rw [← e0] at hk
  refine f_go (F := F6) rfl rfl ?_
  simp only [F6, startF, List.map_cons, List.map_nil, List.length_cons, List.length_nil, Nat.reduceAdd, Nat.reduceSub, List.replicate_succ, List.replicate_zero, List.cons_append, List.nil_append, seq_scal, sc_int, sc_lst, sc_tup, sc_strm, sc_str, sc_bl, sc_non]
  infer_instance
  refine fSteps d _ _ t ns m h hm fun c => ?_
  infer_instance
  cases m with
  | zero =>
    have e : stsD 0 ns = .lst (([] : List Int).map D.int) := rfl
    rw [e]
    refine neL (ys := []) ?_
    rw [decide_eq_true rfl]
    have h0 : 0 < ns.length := by rw [hl]; decide
    infer_instance
    refine cg_ints (α := D) (fun i => 0) (as := []) (by simp) (fun a ha => by cases ha) ?_
    infer_instance
    exact hk
  | succ m =>
    obtain ⟨b, hb⟩ := steps_last m ns
    obtain ⟨a1, a2⟩ := sts_wf (steps (m + 1) ns) fun s hs => by
      obtain ⟨x1, x2⟩ := steps_rw (m + 1) ns h s hs
      exact ⟨x1, by have := two_le hm; omega⟩
    have sl := steps_len (m + 1) ns
    have hL : ((steps (m + 1) ns).map stD).getLast? = some (stD (b, lastR (m + 1) ns)) := by rw [List.getLast?_map, hb]; rfl
    have hW : (D.lst ((steps (m + 1) ns).map stD)).wf = true := by
      unfold D.wf
      rw [a1, List.length_map, sl, decide_eq_true (by omega)]; rfl
    have hD : (D.lst ((steps (m + 1) ns).map stD)).dep ≤ 60 := by unfold D.dep; omega
    have ne : ∀ k : Bool → Prop, k true → cmpD .NotEq (.lst ((steps (m + 1) ns).map stD)) (.lst []) k := fun k hk => by
      cases e : (steps (m + 1) ns).map stD with
      | nil => rw [e] at hL; cases hL
      | cons x xs =>
        rw [e] at hW hD
        exact ne_emp hW hD hk
    unfold stsD
    refine ne _ ?_
    infer_instance
    refine i_last hL ?_
    have e2 : stD (b, lastR (m + 1) ns) = .tup [wd b, .lst ((lastR (m + 1) ns).map D.int)] := rfl
    rw [e2]
    have r0 := (lastR_rw (m + 1) ns h).len
    have l0 : 0 < (lastR (m + 1) ns).length := by rw [r0]; decide
    generalize lastR (m + 1) ns = LR at *
    infer_instance
    rw [List.map_map]
    refine cg_filtI (it := fun s => [((stD s, fl c (stD s)) : DB)]) (fun s : Bool × List Int => (s.2.length : Int)) (fun s => s.1) (as := steps (m + 1) ns) (by omega) (fun s hs k hk => ?_) ?_
    · obtain ⟨b, r⟩ := s
      cases b with
      | true =>
        rw [if_pos rfl] at hk
        rw [stD_t]
        infer_instance
        exact hk
      | false =>
        rw [if_neg Bool.false_ne_true] at hk
        rw [stD_f]
        infer_instance
        exact hk
    · have e1 : (List.map (fun s : Bool × List Int => (s.2.length : Int)) ((steps (m + 1) ns).filter fun s => s.1)).sum = lenK (m + 1) ns := rfl
      infer_instance
      rw [e1]
      exact hk
theorem fHalves (d n : Nat) (k : KE) (t : Bool) (ns : List Int) (m : Nat) (h : Rw m ns) (hm : m ≤ 6) (hk : k (stsD m ns, true) n) : evF T (d + 3) 5 [seqD t ns] n k := by
  refine f_go (F := F5) rfl rfl ?_
  simp only [F5, startF, List.map_cons, List.map_nil, List.length_cons, List.length_nil, Nat.reduceAdd, Nat.reduceSub, List.replicate_succ, List.replicate_zero, List.cons_append, List.nil_append, seq_scal, sc_int, sc_lst, sc_tup, sc_strm, sc_str, sc_bl, sc_non]
  infer_instance
  refine fCheck d _ _ t ns m h hm ?_
  infer_instance
  refine fStepsT (d + 1) _ _ t ns m h hm ?_
  exact hk
theorem fRound (d n : Nat) (k : KE) (t : Bool) (ns : List Int) (m : Nat) (h : Rw m ns) (hm : m ≤ 6) (hk : k (.int (hl m ns : Nat), true) n) : evF T (d + 3) 7 [seqD t ns] n k := by
  refine f_go (F := F7) rfl rfl ?_
  simp only [F7, startF, List.map_cons, List.map_nil, List.length_cons, List.length_nil, Nat.reduceAdd, Nat.reduceSub, List.replicate_succ, List.replicate_zero, List.cons_append, List.nil_append, seq_scal, sc_int, sc_lst, sc_tup, sc_strm, sc_str, sc_bl, sc_non]
  infer_instance
  refine fCheck d _ _ t ns m h hm ?_
  infer_instance
  refine fLen d _ _ t ns m h hm ?_
  exact hk
end Lk62

set_option maxHeartbeats 4000000
namespace Lk62
open PySem PySem.Spec PyProof.Rows L2 DL HV
local macro_rules | `(tactic| infer_instance) => `(tactic| repeat (first | (with_reducible (first | refine Stp.h ?_ | refine StpS.h ?_ | refine d_mod (by omega) ?_ | refine d_mul (mul60 (by omega) (by omega)) ?_ | refine d_div (divL (by omega) (by omega) (by omega)) ?_ | refine i_LI (by omega) (by omega) ?_ | refine i_SI (by omega) (by omega) ?_ | refine q_sz (leZ (by with_unfolding_all rfl)) ?_ | refine q_rng (by omega) (by omega) ?_ | refine q_rng2 ?_ (by omega) | refine q_szI (by omega) ?_ | refine q_szL (by first | omega | (simp only [List.length_append, List.length_map, List.length_cons, List.length_nil, List.length_range, List.length_take, List.length_drop, List.length_zipWith]; omega)) ?_ | refine q_szM (by first | omega | (simp only [List.length_append, List.length_map, List.length_cons, List.length_nil, List.length_range, List.length_take, List.length_drop, List.length_zipWith]; omega)) ?_ | refine q_rfl (by with_unfolding_all rfl) ?_ | refine q_kc (by with_unfolding_all rfl) (by with_unfolding_all rfl) (by with_unfolding_all rfl) ?_ | refine q_unp (by simp only [setTs, List.map_cons, List.map_nil, List.set_cons_zero, List.set_cons_succ, fl_int]; rfl) ?_ | refine q_bind (by simp only [bindT, setTs, wipeF, List.map_cons, List.map_nil, List.set_cons_zero, List.set_cons_succ, fl_int]; rfl) ?_ | refine s_asgS2 (by simp only [view, List.map_cons, List.map_nil, vw_l, vw_k, vw_kt, vw_v, vw_sep, vw_no, seq_scal, sc_int, sc_lst, sc_tup, sc_strm, sc_str, sc_bl, sc_non]; rfl) ?_ | refine s_asgV2 (by simp only [view, List.map_cons, List.map_nil, vw_l, vw_k, vw_kt, vw_v, vw_sep, vw_no, seq_scal, sc_int, sc_lst, sc_tup, sc_strm, sc_str, sc_bl, sc_non]; rfl) ?_ | refine s_parS2 (by simp only [view, List.map_cons, List.map_nil, vw_l, vw_k, vw_kt, vw_v, vw_sep, vw_no, seq_scal, sc_int, sc_lst, sc_tup, sc_strm, sc_str, sc_bl, sc_non]; rfl) ?_ | refine e_sc2 (by simp only [view, List.map_cons, List.map_nil, vw_l, vw_k, vw_kt, vw_v, vw_sep, vw_no, seq_scal, sc_int, sc_lst, sc_tup, sc_strm, sc_str, sc_bl, sc_non]; rfl) ?_ | refine q_dpos rfl ?_ | refine q_nneg rfl ?_ | refine q_dpos (by omega) ?_ | refine q_dneg (by omega) ?_ | refine q_npos (by omega) ?_ | refine q_nneg (by omega) ?_ | refine q_dneg (by decide +kernel) ?_ | refine q_npos (by decide +kernel) ?_ | dsimp only)) | (refine q_is (by simp only [isTs, isT, D.ty, kit_NoneType_int, kit_NoneType_bool, kit_NoneType_str, kit_NoneType_list, kit_NoneType_tuple, kit_NoneType_dict, kit_bool_int, kit_bool_bool, kit_bool_str, kit_bool_list, kit_bool_tuple, kit_bool_dict, kit_int_int, kit_int_bool, kit_int_str, kit_int_list, kit_int_tuple, kit_int_dict, kit_str_int, kit_str_bool, kit_str_str, kit_str_list, kit_str_tuple, kit_str_dict, kit_list_int, kit_list_bool, kit_list_str, kit_list_list, kit_list_tuple, kit_list_dict, kit_tuple_int, kit_tuple_bool, kit_tuple_str, kit_tuple_list, kit_tuple_tuple, kit_tuple_dict, kit_dict_int, kit_dict_bool, kit_dict_str, kit_dict_list, kit_dict_tuple, kit_dict_dict]; rfl) ?_)))
local macro_rules | `(tactic| nofun) => `(tactic| repeat (first | (with_reducible (first | refine Stp.h ?_ | refine d_mod (by omega) ?_ | refine d_mul (mul60 (by omega) (by omega)) ?_ | refine d_div (divL (by omega) (by omega) (by omega)) ?_ | refine i_LI (by omega) (by omega) ?_ | refine i_SI (by omega) (by omega) ?_ | refine q_sz (leZ (by with_unfolding_all rfl)) ?_ | refine q_rng (by omega) (by omega) ?_ | refine q_rng2 ?_ (by omega) | refine q_szI (by omega) ?_ | refine q_szL (by first | omega | (simp only [List.length_append, List.length_map, List.length_cons, List.length_nil, List.length_range, List.length_take, List.length_drop, List.length_zipWith]; omega)) ?_ | refine q_szM (by first | omega | (simp only [List.length_append, List.length_map, List.length_cons, List.length_nil, List.length_range, List.length_take, List.length_drop, List.length_zipWith]; omega)) ?_ | refine q_rfl (by with_unfolding_all rfl) ?_ | refine q_kc (by with_unfolding_all rfl) (by with_unfolding_all rfl) (by with_unfolding_all rfl) ?_ | refine q_unp (by simp only [setTs, List.map_cons, List.map_nil, List.set_cons_zero, List.set_cons_succ, fl_int]; rfl) ?_ | refine q_bind (by simp only [bindT, setTs, wipeF, List.map_cons, List.map_nil, List.set_cons_zero, List.set_cons_succ, fl_int]; rfl) ?_ | refine s_asgS2 (by simp only [view, List.map_cons, List.map_nil, vw_l, vw_k, vw_kt, vw_v, vw_sep, vw_no, seq_scal, sc_int, sc_lst, sc_tup, sc_strm, sc_str, sc_bl, sc_non]; rfl) ?_ | refine s_asgV2 (by simp only [view, List.map_cons, List.map_nil, vw_l, vw_k, vw_kt, vw_v, vw_sep, vw_no, seq_scal, sc_int, sc_lst, sc_tup, sc_strm, sc_str, sc_bl, sc_non]; rfl) ?_ | refine s_parS2 (by simp only [view, List.map_cons, List.map_nil, vw_l, vw_k, vw_kt, vw_v, vw_sep, vw_no, seq_scal, sc_int, sc_lst, sc_tup, sc_strm, sc_str, sc_bl, sc_non]; rfl) ?_ | refine e_sc2 (by simp only [view, List.map_cons, List.map_nil, vw_l, vw_k, vw_kt, vw_v, vw_sep, vw_no, seq_scal, sc_int, sc_lst, sc_tup, sc_strm, sc_str, sc_bl, sc_non]; rfl) ?_ | refine q_dpos rfl ?_ | refine q_nneg rfl ?_ | refine q_dpos (by omega) ?_ | refine q_dneg (by omega) ?_ | refine q_npos (by omega) ?_ | refine q_nneg (by omega) ?_ | refine q_dneg (by decide +kernel) ?_ | refine q_npos (by decide +kernel) ?_ | dsimp only)) | (refine q_is (by simp only [isTs, isT, D.ty, kit_NoneType_int, kit_NoneType_bool, kit_NoneType_str, kit_NoneType_list, kit_NoneType_tuple, kit_NoneType_dict, kit_bool_int, kit_bool_bool, kit_bool_str, kit_bool_list, kit_bool_tuple, kit_bool_dict, kit_int_int, kit_int_bool, kit_int_str, kit_int_list, kit_int_tuple, kit_int_dict, kit_str_int, kit_str_bool, kit_str_str, kit_str_list, kit_str_tuple, kit_str_dict, kit_list_int, kit_list_bool, kit_list_str, kit_list_list, kit_list_tuple, kit_list_dict, kit_tuple_int, kit_tuple_bool, kit_tuple_str, kit_tuple_list, kit_tuple_tuple, kit_tuple_dict, kit_dict_int, kit_dict_bool, kit_dict_str, kit_dict_list, kit_dict_tuple, kit_dict_dict]; rfl) ?_)))
theorem fPower (d n : Nat) (k : KE) (m : Nat) (hm : m ≤ 20) (hk : k (.int (2 ^ m : Nat), true) n) : evF T (d + 1) 10 [.int 2, .int m] n k := by
  refine f_go (F := F10) rfl rfl ?_
  simp only [F10, startF, List.map_cons, List.map_nil, List.length_cons, List.length_nil, Nat.reduceAdd, Nat.reduceSub, List.replicate_succ, List.replicate_zero, List.cons_append, List.nil_append, seq_scal, sc_int, sc_lst, sc_tup, sc_strm, sc_str, sc_bl, sc_non]
  infer_instance
  show forGo _ ((List.range m).map _) _ _ _
  refine fg_rng m (fun i f n' => n' = n ∧ ∃ x3, f = [.v (.int 2) true, .v (.int m) true, .v (.int (2 ^ i : Nat)) true, x3]) ⟨rfl, _, rfl⟩ ?_ ?_
  · rintro i hi f n' W ⟨rfl, x3, rfl⟩ hW
    refine ⟨_, rfl, ?_⟩
    have hp := two_le (show i ≤ 20 by omega)
    have e : ((2 ^ (i + 1) : Nat) : Int) = ((2 ^ i : Nat) : Int) * 2 := by rw [Nat.pow_succ]; omega
    have hW2 := hW [.v (.int 2) true, .v (.int m) true, .v (.int (2 ^ (i + 1) : Nat)) true, .v (.int (i : Nat)) true] n' ⟨rfl, _, rfl⟩
    rw [e] at hW2
    generalize 2 ^ i = P at hp hW2
    infer_instance
    exact hW2
  · rintro f n' ⟨rfl, x3, rfl⟩
    infer_instance
    exact hk
theorem flat_rep (m : Nat) (xs : List Int) : (List.replicate m (xs.map D.int)).flatten = ((List.replicate m xs).flatten).map D.int := by
  rw [List.map_flatten, List.map_replicate]
theorem rep_len (m : Nat) (xs : List Int) : ((List.replicate m xs).flatten).length = m * xs.length := by
  rw [List.length_flatten, List.map_replicate]
  induction m with
  | zero => simp
  | succ m ih => rw [List.replicate_succ, List.sum_cons, ih, Nat.succ_mul]; omega
theorem rep_bt {m : Nat} {xs : List Int} (h : Bt xs) : Bt ((List.replicate m xs).flatten) := fun i hi => by
  obtain ⟨l, h1, h2⟩ := List.mem_flatten.mp hi
  rw [(List.mem_replicate.mp h1).2] at h2
  exact h i h2
theorem mod_rw {s : Nat} (g : Nat → Int) : Rw s ((List.range (2 ^ s)).map fun j => g j % 2) := ⟨by simp, fun i hi => by
  obtain ⟨j, _, rfl⟩ := List.mem_map.mp hi
  show g j % 2 = 0 ∨ g j % 2 = 1
  omega⟩
theorem draws_rw {s : Nat} {ns : List Int} (hl : ns.length = 2 ^ s) (h : ∀ i ∈ ns, 0 ≤ i ∧ i < 2) : Rw s ns := ⟨hl, fun i hi => by have := h i hi; omega⟩
def t4 : XSs :=   (.cons (.ife (.tc .Eq (.ex (.var 5)) (.ex (.int 4)))
  (.cons (.asg 3 (.l (.rep (.ex (.nl (.lit (.cons (.draw (.var 0) (.int 2)) .nil)))) (.var 2))))
  .nil)
  .nil)
  (.cons (.frz 3 (.ret (.var 3)))
  .nil))
def t3 : XSs :=   (.cons (.ife (.tc .Eq (.ex (.var 5)) (.ex (.int 3)))
  (.cons (.for [7] (.rng1 (.draw (.var 0) (.var 2)))
  (.cons (.asg 3 (.l (.comp (.bin .Mod (.bi .int (.ex (.bin .Add (.idx (.own 3) (.var 8)) (.idx (.own 3) (.bin .Sub (.var 8) (.int 1)))))) (.int 2)) [8] [8] (.rng1 (.var 2)) .nil)))
  .nil))
  .nil)
  .nil) t4)
def t2 : XSs :=   (.cons (.ife (.tc .Eq (.ex (.var 5)) (.ex (.int 2)))
  (.cons (.asg 6 (.e (.nl (.sl (.own 3) .no (.yes (.call 10 (.cons (.int 2) (.cons (.draw (.var 0) (.bin .Add (.var 4) (.int 1))) .nil))))))))
  (.cons (.asg 3 (.l (.sl (.ex (.nl (.rep (.ex (.var 6)) (.var 2)))) .no (.yes (.var 2)))))
  .nil))
  .nil) t3)
def t1 : XSs :=   (.cons (.ife (.tc .Eq (.ex (.var 5)) (.ex (.int 1)))
  (.cons (.asg 3 (.l (.comp (.ife (.tc .Eq (.ex (.draw (.var 0) (.int 6))) (.ex (.int 0))) (.int 1) (.int 0)) [8] [8] (.rng1 (.var 2)) .nil)))
  .nil)
  .nil) t2)
theorem twos4 {d : Nat} (n : Nat) (K : DE) (s : Nat) (ns : List Int) (w : Int) (y1 y6 y7 y8 : Sl) (hs : s ≤ 6) (h : Rw s ns) (hn : 1 ≤ n) (hk : ∀ ns' n', Rw s ns' → n - 1 ≤ n' → K.rt (.lst (ns'.map D.int), true) n') :
    evSs (evF T d) t4 K [.v .strm false, y1, .v (.int (2 ^ s : Nat)) true, .l (ns.map D.int) true, .v (.int s) true, .v (.int w) true, y6, y7, y8] n := by
  have hp := two_le hs
  have hpos := Nat.two_pow_pos s
  unfold t4
  infer_instance
  by_cases hw : w = 4
  · infer_instance
    refine drawD_ok (by omega) (by omega) (by omega) fun j j0 j1 => ?_
    infer_instance
    refine ⟨by omega, by omega, by rw [sizeLine_eq, show ((2 ^ s : Nat) : Int).toNat = 2 ^ s from rfl]; simp only [List.length_cons, List.length_nil]; omega, ?_⟩
    rw [show ((2 ^ s : Nat) : Int).toNat = 2 ^ s from rfl, show [D.int j] = [j].map D.int from rfl, flat_rep, fls_ints]
    infer_instance
    refine hk _ _ (draws_rw (by rw [rep_len]; simp) fun i hi => ?_) (by omega)
    obtain ⟨l, h1, h2⟩ := List.mem_flatten.mp hi
    rw [(List.mem_replicate.mp h1).2] at h2
    rw [List.mem_singleton.mp h2]
    exact ⟨j0, j1⟩
  · infer_instance
    exact hk _ _ h (by omega)
theorem twos3 {d : Nat} (n : Nat) (K : DE) (s : Nat) (ns : List Int) (w : Int) (y1 y6 y7 y8 : Sl) (hs : s ≤ 6) (h : Rw s ns) (hn : 2 ≤ n) (hk : ∀ ns' n', Rw s ns' → n - 2 ≤ n' → K.rt (.lst (ns'.map D.int), true) n') :
    evSs (evF T d) t3 K [.v .strm false, y1, .v (.int (2 ^ s : Nat)) true, .l (ns.map D.int) true, .v (.int s) true, .v (.int w) true, y6, y7, y8] n := by
  have hp := two_le hs
  have hpos := Nat.two_pow_pos s
  unfold t3
  infer_instance
  by_cases hw : w = 3
  · infer_instance
    refine drawD_ok (by omega) (by omega) (by omega) fun j j0 j1 => ?_
    obtain ⟨j, rfl⟩ : ∃ m : Nat, j = m := ⟨j.toNat, by omega⟩
    infer_instance
    show forGo _ ((List.range j).map _) _ _ _
    refine fg_rng j (fun i f n' => n' = n - 1 ∧ ∃ ns' y7 y8, Rw s ns' ∧ f = [.v .strm false, y1, .v (.int (2 ^ s : Nat)) true, .l (ns'.map D.int) true, .v (.int s) true, .v (.int w) true, y6, y7, y8]) ⟨rfl, ns, _, _, h, rfl⟩ ?_ ?_
    · rintro i hi f n' W ⟨rfl, ns', y7, y8, h', rfl⟩ hW
      refine ⟨_, rfl, ?_⟩
      have hl := h'.len
      infer_instance
      show compGo _ ((List.range (2 ^ s)).map _) _ _ _ _
      refine cg_ints (fun j : Nat => (gdI ns' j + gdI ns' (if j = 0 then ns'.length - 1 else j - 1)) % 2) (by rw [List.length_range]; omega) (fun j hj k hk => ?_) ?_
      · have hj := List.mem_range.mp hj
        infer_instance
        rw [show ((j : Nat) : Int).toNat = j from rfl]
        by_cases j0 : j = 0
        · subst j0
          rw [if_pos rfl] at hk
          rw [show ((0 : Nat) : Int) - 1 = -1 from rfl]
          refine i_m1 (by omega) rfl ?_
          infer_instance
          exact hk
        · rw [if_neg j0] at hk
          infer_instance
          rw [show ((j : Int) - 1).toNat = j - 1 by omega]
          exact hk
      · rw [fls_ints]
        infer_instance
        exact hW _ _ ⟨rfl, _, _, _, mod_rw fun j => gdI ns' j + gdI ns' (if j = 0 then ns'.length - 1 else j - 1), rfl⟩
    · rintro f n' ⟨rfl, ns', y7, y8, h', rfl⟩
      refine twos4 _ _ s ns' w _ _ _ _ hs h' (by omega) fun ns2 n2 h2 hn2 => hk _ _ h2 (by omega)
  · infer_instance
    refine twos4 _ _ s ns w _ _ _ _ hs h (by omega) fun ns2 n2 h2 hn2 => hk _ _ h2 (by omega)
theorem twos2 {d : Nat} (n : Nat) (K : DE) (s : Nat) (ns : List Int) (w : Int) (y1 y6 y7 y8 : Sl) (hs : s ≤ 6) (h : Rw s ns) (hn : 3 ≤ n) (hk : ∀ ns' n', Rw s ns' → n - 3 ≤ n' → K.rt (.lst (ns'.map D.int), true) n') :
    evSs (evF T (d + 1)) t2 K [.v .strm false, y1, .v (.int (2 ^ s : Nat)) true, .l (ns.map D.int) true, .v (.int s) true, .v (.int w) true, y6, y7, y8] n := by
  have hp := two_le hs
  have hpos := Nat.two_pow_pos s
  have hl := h.len
  unfold t2
  infer_instance
  by_cases hw : w = 2
  · infer_instance
    refine drawD_ok (by omega) (by omega) (by omega) fun j j0 j1 => ?_
    obtain ⟨j, rfl⟩ : ∃ m : Nat, j = m := ⟨j.toNat, by omega⟩
    have hpj := two_le (show j ≤ s by omega)
    have hpj0 := Nat.two_pow_pos j
    infer_instance
    refine fPower d _ _ j (by omega) ?_
    infer_instance
    rw [cut_to, ← List.map_take, fls_ints]
    infer_instance
    have hlt : (ns.take (2 ^ j)).length = 2 ^ j := by rw [List.length_take]; omega
    refine ⟨by omega, by omega, ?_, ?_⟩
    · rw [sizeLine_eq, List.length_map, hlt, show ((2 ^ s : Nat) : Int).toNat = 2 ^ s from rfl]
      have := Nat.mul_le_mul (show 2 ^ j ≤ 64 by omega) (show 2 ^ s ≤ 64 by omega)
      omega
    rw [show ((2 ^ s : Nat) : Int).toNat = 2 ^ s from rfl, flat_rep, fls_ints]
    infer_instance
    rw [cut_to, ← List.map_take, fls_ints]
    have hr : Rw s (((List.replicate (2 ^ s) (ns.take (2 ^ j))).flatten).take (2 ^ s)) := by
      refine ⟨?_, bt_take (rep_bt (bt_take h.bt _)) _⟩
      rw [List.length_take, rep_len, hlt]
      have := Nat.mul_le_mul_left (2 ^ s) hpj0
      omega
    infer_instance
    refine twos3 _ _ s _ w _ _ _ _ hs hr (by omega) fun ns2 n2 h2 hn2 => hk _ _ h2 (by omega)
  · infer_instance
    refine twos3 _ _ s ns w _ _ _ _ hs h (by omega) fun ns2 n2 h2 hn2 => hk _ _ h2 (by omega)
theorem twos1 {d : Nat} (n : Nat) (K : DE) (s : Nat) (ns : List Int) (w : Int) (y1 y6 y7 y8 : Sl) (hs : s ≤ 6) (h : Rw s ns) (hn : 67 ≤ n) (hk : ∀ ns' n', Rw s ns' → n - 67 ≤ n' → K.rt (.lst (ns'.map D.int), true) n') :
    evSs (evF T (d + 1)) t1 K [.v .strm false, y1, .v (.int (2 ^ s : Nat)) true, .l (ns.map D.int) true, .v (.int s) true, .v (.int w) true, y6, y7, y8] n := by
  have hp := two_le hs
  have hpos := Nat.two_pow_pos s
  unfold t1
  infer_instance
  by_cases hw : w = 1
  · infer_instance
    show compGo _ ((List.range (2 ^ s)).map _) _ _ _ _
    refine cg_draws (m := 2) (by rw [List.length_range]; omega) (by rw [List.length_range]; omega) (fun a ha n k hn hk => ?_) fun xs h1 h2 => ?_
    · infer_instance
      refine drawD_ok (by omega) (by omega) hn fun j j0 j1 => ?_
      infer_instance
      by_cases hj : j = 0
      · infer_instance
        exact hk 1 (by omega) (by omega)
      · infer_instance
        exact hk 0 (by omega) (by omega)
    · rw [List.length_range] at h1 ⊢
      rw [fls_ints]
      infer_instance
      refine twos2 _ _ s xs w _ _ _ _ hs (draws_rw h1 h2) (by omega) fun ns2 n2 h2 hn2 => hk _ _ h2 (by omega)
  · infer_instance
    refine twos2 _ _ s ns w _ _ _ _ hs h (by omega) fun ns2 n2 h2 hn2 => hk _ _ h2 (by omega)
def t0 : XSs := (.cons (.par2 4 5 (.e (.draw (.var 0) (.bin .Add (.var 1) (.int 1)))) (.e (.draw (.var 0) (.int 5))))
  (.cons (.asg 2 (.e (.call 10 (.cons (.int 2) (.cons (.var 4) .nil)))))
  (.cons (.asg 3 (.l (.comp (.draw (.var 0) (.int 2)) [8] [8] (.rng1 (.var 2)) .nil))) t1)))
theorem twos0 {d : Nat} (n : Nat) (K : DE) (most : Nat) (hm : most ≤ 6) (hn : 140 ≤ n) (hk : ∀ s ns n', s ≤ most → Rw s ns → n - 140 ≤ n' → K.rt (.lst (ns.map D.int), true) n') :
    evSs (evF T (d + 1)) t0 K [.v .strm false, .v (.int most) true, .no, .no, .no, .no, .no, .no, .no] n := by
  unfold t0
  infer_instance
  refine drawD_ok (by omega) (by omega) (by omega) fun s s0 s1 => ?_
  obtain ⟨s, rfl⟩ : ∃ m : Nat, s = m := ⟨s.toNat, by omega⟩
  infer_instance
  refine drawD_ok (by omega) (by omega) (by omega) fun w w0 w1 => ?_
  infer_instance
  refine fPower d _ _ s (by omega) ?_
  have hp := two_le (show s ≤ 6 by omega)
  have hpos := Nat.two_pow_pos s
  infer_instance
  show compGo _ ((List.range (2 ^ s)).map _) _ _ _ _
  refine cg_draws (m := 2) (by rw [List.length_range]; omega) (by rw [List.length_range]; omega) (fun a ha n k hn hk => ?_) fun xs h1 h2 => ?_
  · infer_instance
    refine drawD_ok (by omega) (by omega) hn fun j j0 j1 => ?_
    exact hk j j0 j1
  · rw [List.length_range] at h1 ⊢
    rw [fls_ints]
    infer_instance
    refine twos1 (n - 1 - 1 - 2 ^ s) K s xs w _ _ _ _ (by omega) (draws_rw h1 h2) (by omega) fun ns2 n2 h2 hn2 => hk s ns2 n2 (by omega) h2 (by omega)
theorem fTwos (d n : Nat) (k : KE) (most : Nat) (hm : most ≤ 6) (hn : 140 ≤ n) (hk : ∀ s ns n', s ≤ most → Rw s ns → n - 140 ≤ n' → k (.lst (ns.map D.int), true) n') : evF T (d + 2) 14 [.strm, .int most] n k := by
  have key : ∀ K : DE, (∀ s ns n', s ≤ most → Rw s ns → n - 140 ≤ n' → K.rt (.lst (ns.map D.int), true) n') → evSs (evF T (d + 1)) t0 K [.v .strm false, .v (.int most) true, .no, .no, .no, .no, .no, .no, .no] n := fun K hk => by
    exact twos0 n K most hm hn hk
  refine f_go (F := F14) rfl rfl ?_
  simp only [F14, startF, List.map_cons, List.map_nil, List.length_cons, List.length_nil, Nat.reduceAdd, Nat.reduceSub, List.replicate_succ, List.replicate_zero, List.cons_append, List.nil_append, seq_scal, sc_int, sc_lst, sc_tup, sc_strm, sc_str, sc_bl, sc_non]
  exact key _ hk
end Lk62

set_option maxHeartbeats 4000000
namespace Lk62
open PySem PySem.Spec PyProof.Rows L2 DL HV
local macro_rules | `(tactic| infer_instance) => `(tactic| repeat (first | (with_reducible (first | refine Stp.h ?_ | refine StpS.h ?_ | refine d_mod (by omega) ?_ | refine d_mul (mul60 (by omega) (by omega)) ?_ | refine d_div (divL (by omega) (by omega) (by omega)) ?_ | refine i_LI (by omega) (by omega) ?_ | refine i_SI (by omega) (by omega) ?_ | refine q_sz (leZ (by with_unfolding_all rfl)) ?_ | refine q_rng (by omega) (by omega) ?_ | refine q_rng2 ?_ (by omega) | refine q_szI (by omega) ?_ | refine q_szL (by first | omega | (simp only [List.length_append, List.length_map, List.length_cons, List.length_nil, List.length_range, List.length_take, List.length_drop, List.length_zipWith]; omega)) ?_ | refine q_szM (by first | omega | (simp only [List.length_append, List.length_map, List.length_cons, List.length_nil, List.length_range, List.length_take, List.length_drop, List.length_zipWith]; omega)) ?_ | refine q_rfl (by with_unfolding_all rfl) ?_ | refine q_kc (by with_unfolding_all rfl) (by with_unfolding_all rfl) (by with_unfolding_all rfl) ?_ | refine q_unp (by simp only [setTs, List.map_cons, List.map_nil, List.set_cons_zero, List.set_cons_succ, fl_int]; rfl) ?_ | refine q_bind (by simp only [bindT, setTs, wipeF, List.map_cons, List.map_nil, List.set_cons_zero, List.set_cons_succ, fl_int]; rfl) ?_ | refine s_asgS2 (by simp only [view, List.map_cons, List.map_nil, vw_l, vw_k, vw_kt, vw_v, vw_sep, vw_no, seq_scal, sc_int, sc_lst, sc_tup, sc_strm, sc_str, sc_bl, sc_non]; rfl) ?_ | refine s_asgV2 (by simp only [view, List.map_cons, List.map_nil, vw_l, vw_k, vw_kt, vw_v, vw_sep, vw_no, seq_scal, sc_int, sc_lst, sc_tup, sc_strm, sc_str, sc_bl, sc_non]; rfl) ?_ | refine s_parS2 (by simp only [view, List.map_cons, List.map_nil, vw_l, vw_k, vw_kt, vw_v, vw_sep, vw_no, seq_scal, sc_int, sc_lst, sc_tup, sc_strm, sc_str, sc_bl, sc_non]; rfl) ?_ | refine e_sc2 (by simp only [view, List.map_cons, List.map_nil, vw_l, vw_k, vw_kt, vw_v, vw_sep, vw_no, seq_scal, sc_int, sc_lst, sc_tup, sc_strm, sc_str, sc_bl, sc_non]; rfl) ?_ | refine q_dpos rfl ?_ | refine q_nneg rfl ?_ | refine q_dpos (by omega) ?_ | refine q_dneg (by omega) ?_ | refine q_npos (by omega) ?_ | refine q_nneg (by omega) ?_ | refine q_dneg (by decide +kernel) ?_ | refine q_npos (by decide +kernel) ?_ | dsimp only)) | (refine q_is (by simp only [isTs, isT, D.ty, kit_NoneType_int, kit_NoneType_bool, kit_NoneType_str, kit_NoneType_list, kit_NoneType_tuple, kit_NoneType_dict, kit_bool_int, kit_bool_bool, kit_bool_str, kit_bool_list, kit_bool_tuple, kit_bool_dict, kit_int_int, kit_int_bool, kit_int_str, kit_int_list, kit_int_tuple, kit_int_dict, kit_str_int, kit_str_bool, kit_str_str, kit_str_list, kit_str_tuple, kit_str_dict, kit_list_int, kit_list_bool, kit_list_str, kit_list_list, kit_list_tuple, kit_list_dict, kit_tuple_int, kit_tuple_bool, kit_tuple_str, kit_tuple_list, kit_tuple_tuple, kit_tuple_dict, kit_dict_int, kit_dict_bool, kit_dict_str, kit_dict_list, kit_dict_tuple, kit_dict_dict]; rfl) ?_)))
local macro_rules | `(tactic| nofun) => `(tactic| repeat (first | (with_reducible (first | refine Stp.h ?_ | refine d_mod (by omega) ?_ | refine d_mul (mul60 (by omega) (by omega)) ?_ | refine d_div (divL (by omega) (by omega) (by omega)) ?_ | refine i_LI (by omega) (by omega) ?_ | refine i_SI (by omega) (by omega) ?_ | refine q_sz (leZ (by with_unfolding_all rfl)) ?_ | refine q_rng (by omega) (by omega) ?_ | refine q_rng2 ?_ (by omega) | refine q_szI (by omega) ?_ | refine q_szL (by first | omega | (simp only [List.length_append, List.length_map, List.length_cons, List.length_nil, List.length_range, List.length_take, List.length_drop, List.length_zipWith]; omega)) ?_ | refine q_szM (by first | omega | (simp only [List.length_append, List.length_map, List.length_cons, List.length_nil, List.length_range, List.length_take, List.length_drop, List.length_zipWith]; omega)) ?_ | refine q_rfl (by with_unfolding_all rfl) ?_ | refine q_kc (by with_unfolding_all rfl) (by with_unfolding_all rfl) (by with_unfolding_all rfl) ?_ | refine q_unp (by simp only [setTs, List.map_cons, List.map_nil, List.set_cons_zero, List.set_cons_succ, fl_int]; rfl) ?_ | refine q_bind (by simp only [bindT, setTs, wipeF, List.map_cons, List.map_nil, List.set_cons_zero, List.set_cons_succ, fl_int]; rfl) ?_ | refine s_asgS2 (by simp only [view, List.map_cons, List.map_nil, vw_l, vw_k, vw_kt, vw_v, vw_sep, vw_no, seq_scal, sc_int, sc_lst, sc_tup, sc_strm, sc_str, sc_bl, sc_non]; rfl) ?_ | refine s_asgV2 (by simp only [view, List.map_cons, List.map_nil, vw_l, vw_k, vw_kt, vw_v, vw_sep, vw_no, seq_scal, sc_int, sc_lst, sc_tup, sc_strm, sc_str, sc_bl, sc_non]; rfl) ?_ | refine s_parS2 (by simp only [view, List.map_cons, List.map_nil, vw_l, vw_k, vw_kt, vw_v, vw_sep, vw_no, seq_scal, sc_int, sc_lst, sc_tup, sc_strm, sc_str, sc_bl, sc_non]; rfl) ?_ | refine e_sc2 (by simp only [view, List.map_cons, List.map_nil, vw_l, vw_k, vw_kt, vw_v, vw_sep, vw_no, seq_scal, sc_int, sc_lst, sc_tup, sc_strm, sc_str, sc_bl, sc_non]; rfl) ?_ | refine q_dpos rfl ?_ | refine q_nneg rfl ?_ | refine q_dpos (by omega) ?_ | refine q_dneg (by omega) ?_ | refine q_npos (by omega) ?_ | refine q_nneg (by omega) ?_ | refine q_dneg (by decide +kernel) ?_ | refine q_npos (by decide +kernel) ?_ | dsimp only)) | (refine q_is (by simp only [isTs, isT, D.ty, kit_NoneType_int, kit_NoneType_bool, kit_NoneType_str, kit_NoneType_list, kit_NoneType_tuple, kit_NoneType_dict, kit_bool_int, kit_bool_bool, kit_bool_str, kit_bool_list, kit_bool_tuple, kit_bool_dict, kit_int_int, kit_int_bool, kit_int_str, kit_int_list, kit_int_tuple, kit_int_dict, kit_str_int, kit_str_bool, kit_str_str, kit_str_list, kit_str_tuple, kit_str_dict, kit_list_int, kit_list_bool, kit_list_str, kit_list_list, kit_list_tuple, kit_list_dict, kit_tuple_int, kit_tuple_bool, kit_tuple_str, kit_tuple_list, kit_tuple_tuple, kit_tuple_dict, kit_dict_int, kit_dict_bool, kit_dict_str, kit_dict_list, kit_dict_tuple, kit_dict_dict]; rfl) ?_)))
theorem sums_eq {w : Nat} {x : List Int} (h : Rw (w + 1) x) : ((List.range (2 ^ w)).map fun j => if gdI x j = gdI x (j + 2 ^ w) then (0 : Int) else 1) = sH w x := by
  have e := pw w
  have hl := h.len
  have al := h.a.len
  have bl := h.b.len
  refine List.ext_getElem (by rw [h.s.len]; simp) fun i i1 i2 => ?_
  have hi : i < 2 ^ w := by simpa using i1
  rw [List.getElem_map, List.getElem_range, gdI_at (by omega), gdI_at (by omega)]
  have b1 := bt_at h.bt (i := i) (by omega)
  have b2 := bt_at h.bt (i := i + 2 ^ w) (by omega)
  have es : (sH w x)[i] = (x[i]'(by omega) + x[i + 2 ^ w]'(by omega)) % 2 := by
    simp only [sH, sx, aH, bH, List.getElem_zipWith, List.getElem_take, List.getElem_drop]
    congr 2
    congr 1
    omega
  rw [es]
  split <;> omega
theorem fLSteps (d n : Nat) (k : KE) (ns : List Int) (m : Nat) (h : Rw m ns) (hm : m ≤ 6) (hk : ∀ c, k (stsD m ns, c) n) : evF T (d + 1) 11 [.lst (ns.map D.int)] n k := by
  have hl := h.len
  refine f_go (F := F11) rfl rfl ?_
  simp only [F11, startF, List.map_cons, List.map_nil, List.length_cons, List.length_nil, Nat.reduceAdd, Nat.reduceSub, List.replicate_succ, List.replicate_zero, List.cons_append, List.nil_append, seq_scal, sc_int, sc_lst, sc_tup, sc_strm, sc_str, sc_bl, sc_non]
  infer_instance
  rw [fls_ints]
  infer_instance
  refine s_whl (fun z f n' => n' = n ∧ z ≤ 6 ∧ ∃ x acc y3 y4 b c, Rw z x ∧ acc ++ steps z x = steps m ns ∧ acc.length ≤ 6 ∧ f = [.v (.lst (ns.map D.int)) false, .l (acc.map stD) b, .v (.lst (x.map D.int)) c, y3, y4, .no]) (m := m) ⟨rfl, hm, ns, [], _, _, _, _, h, rfl, by decide, rfl⟩ ?_
  rintro z f n' W ⟨rfl, hz, x, acc, y3, y4, b, c, hx, hs, hacc, rfl⟩ hW
  have hxl := hx.len
  cases z with
  | zero =>
    infer_instance
    rw [show steps 0 x = [] from rfl, List.append_nil] at hs
    have e : stsD m ns = .lst (acc.map stD) := by unfold stsD; rw [← hs]
    rw [← e]
    exact hk _
  | succ w =>
    have hp := two_le (show w ≤ 5 by omega)
    have hpos := Nat.two_pow_pos w
    have e := pw w
    have hal : acc.length + 1 ≤ 6 := by
      have := congrArg List.length hs
      rw [List.length_append, steps_len, steps_len] at this
      omega
    infer_instance
    have e2 : (x.length : Int) / 2 = ((2 ^ w : Nat) : Int) := by rw [hxl, e]; omega
    rw [e2]
    infer_instance
    show compGo _ ((List.range (2 ^ w)).map _) _ _ _ _
    refine cg_ints (fun j : Nat => if gdI x j = gdI x (j + 2 ^ w) then (0 : Int) else 1) (by rw [List.length_range]; omega) (fun j hj k hk => ?_) ?_
    · have hj := List.mem_range.mp hj
      infer_instance
      rw [show ((j : Nat) : Int).toNat = j from rfl, show ((j : Int) + ((2 ^ w : Nat) : Int)).toNat = j + 2 ^ w by omega]
      by_cases hq : gdI x j = gdI x (j + 2 ^ w)
      · rw [if_pos hq] at hk
        rw [decide_eq_true hq]
        infer_instance
        exact hk
      · rw [if_neg hq] at hk
        rw [decide_eq_false hq]
        infer_instance
        exact hk
    rw [sums_eq hx, fls_ints]
    infer_instance
    refine c_inL ?_
    have eh : decide ((1 : Int) ∈ sH w x) = has (sH w x) := rfl
    rw [eh]
    have hst : acc ++ (stp w x :: steps w (stp w x).2) = steps m ns := hs
    cases hh : has (sH w x) with
    | true =>
      have e3 : stp w x = (true, sH w x) := by unfold stp; rw [if_pos hh]
      rw [e3] at hst
      infer_instance
      refine c_inL ?_
      rw [eh, hh]
      infer_instance
      have e4 : acc.map stD ++ [D.tup [.str (Str.ofString "unlike"), .lst ((sH w x).map D.int)]] = (acc ++ [(true, sH w x)]).map stD := by rw [List.map_append]; rfl
      rw [e4]
      exact hW w _ _ (by omega) ⟨rfl, by omega, sH w x, acc ++ [(true, sH w x)], _, _, _, _, hx.s, by rw [List.append_assoc]; exact hst, by rw [List.length_append]; exact hal, rfl⟩
    | false =>
      have e3 : stp w x = (false, aH w x) := by unfold stp; rw [if_neg (by rw [hh]; exact Bool.false_ne_true)]
      rw [e3] at hst
      infer_instance
      rw [cut_a]
      infer_instance
      refine c_inL ?_
      rw [eh, hh]
      infer_instance
      have e4 : acc.map stD ++ [D.tup [.str (Str.ofString "like"), .lst ((aH w x).map D.int)]] = (acc ++ [(false, aH w x)]).map stD := by rw [List.map_append]; rfl
      rw [e4]
      exact hW w _ _ (by omega) ⟨rfl, by omega, aH w x, acc ++ [(false, aH w x)], _, _, _, _, hx.a, by rw [List.append_assoc]; exact hst, by rw [List.length_append]; exact hal, rfl⟩
theorem fLHl (d n : Nat) (k : KE) (ns : List Int) (m : Nat) (h : Rw m ns) (hm : m ≤ 6) (hk : k (.int (hl m ns : Nat), true) n) : evF T (d + 2) 12 [.lst (ns.map D.int)] n k := by
  have hl := h.len
  have e0 := lenK_hl h
  rw [← e0] at hk
  refine f_go (F := F12) rfl rfl ?_
  simp only [F12, startF, List.map_cons, List.map_nil, List.length_cons, List.length_nil, Nat.reduceAdd, Nat.reduceSub, List.replicate_succ, List.replicate_zero, List.cons_append, List.nil_append, seq_scal, sc_int, sc_lst, sc_tup, sc_strm, sc_str, sc_bl, sc_non]
  infer_instance
  refine fLSteps d _ _ ns m h hm fun c => ?_
  infer_instance
  cases m with
  | zero =>
    have e : stsD 0 ns = .lst (([] : List Int).map D.int) := rfl
    rw [e]
    refine neL (ys := []) ?_
    rw [decide_eq_true rfl]
    have h0 : 0 < ns.length := by rw [hl]; decide
    infer_instance
    refine cg_ints (α := D) (fun i => 0) (as := []) (by simp) (fun a ha => by cases ha) ?_
    infer_instance
    exact hk
  | succ m =>
    obtain ⟨b, hb⟩ := steps_last m ns
    obtain ⟨a1, a2⟩ := sts_wf (steps (m + 1) ns) fun s hs => by
      obtain ⟨x1, x2⟩ := steps_rw (m + 1) ns h s hs
      exact ⟨x1, by have := two_le hm; omega⟩
    have sl := steps_len (m + 1) ns
    have hL : ((steps (m + 1) ns).map stD).getLast? = some (stD (b, lastR (m + 1) ns)) := by rw [List.getLast?_map, hb]; rfl
    have hW : (D.lst ((steps (m + 1) ns).map stD)).wf = true := by
      unfold D.wf
      rw [a1, List.length_map, sl, decide_eq_true (by omega)]; rfl
    have hD : (D.lst ((steps (m + 1) ns).map stD)).dep ≤ 60 := by unfold D.dep; omega
    have ne : ∀ k : Bool → Prop, k true → cmpD .NotEq (.lst ((steps (m + 1) ns).map stD)) (.lst []) k := fun k hk => by
      cases e : (steps (m + 1) ns).map stD with
      | nil => rw [e] at hL; cases hL
      | cons x xs =>
        rw [e] at hW hD
        exact ne_emp hW hD hk
    unfold stsD
    refine ne _ ?_
    infer_instance
    refine i_last hL ?_
    have e2 : stD (b, lastR (m + 1) ns) = .tup [wd b, .lst ((lastR (m + 1) ns).map D.int)] := rfl
    rw [e2]
    have r0 := (lastR_rw (m + 1) ns h).len
    have l0 : 0 < (lastR (m + 1) ns).length := by rw [r0]; decide
    generalize lastR (m + 1) ns = LR at *
    infer_instance
    rw [List.map_map]
    refine cg_filtI (it := fun s => [((stD s, fl c (stD s)) : DB)]) (fun s : Bool × List Int => (s.2.length : Int)) (fun s => s.1) (as := steps (m + 1) ns) (by omega) (fun s hs k hk => ?_) ?_
    · obtain ⟨b, r⟩ := s
      cases b with
      | true =>
        rw [if_pos rfl] at hk
        rw [stD_t]
        infer_instance
        exact hk
      | false =>
        rw [if_neg Bool.false_ne_true] at hk
        rw [stD_f]
        infer_instance
        exact hk
    · have e1 : (List.map (fun s : Bool × List Int => (s.2.length : Int)) ((steps (m + 1) ns).filter fun s => s.1)).sum = lenK (m + 1) ns := rfl
      infer_instance
      rw [e1]
      exact hk
end Lk62

set_option maxHeartbeats 4000000
namespace Lk62
open PySem PySem.Spec PyProof.Rows L2 DL HV MB GC
local macro_rules | `(tactic| infer_instance) => `(tactic| repeat (first | (with_reducible (first | refine Stp.h ?_ | refine StpS.h ?_ | refine d_mod (by omega) ?_ | refine d_mul (mul60 (by omega) (by omega)) ?_ | refine d_div (divL (by omega) (by omega) (by omega)) ?_ | refine i_LI (by omega) (by omega) ?_ | refine i_SI (by omega) (by omega) ?_ | refine q_sz (leZ (by with_unfolding_all rfl)) ?_ | refine q_rng (by omega) (by omega) ?_ | refine q_rng2 ?_ (by omega) | refine q_szI (by omega) ?_ | refine q_szL (by first | omega | (simp only [List.length_append, List.length_map, List.length_cons, List.length_nil, List.length_range, List.length_take, List.length_drop, List.length_zipWith]; omega)) ?_ | refine q_szM (by first | omega | (simp only [List.length_append, List.length_map, List.length_cons, List.length_nil, List.length_range, List.length_take, List.length_drop, List.length_zipWith]; omega)) ?_ | refine q_rfl (by with_unfolding_all rfl) ?_ | refine q_kc (by with_unfolding_all rfl) (by with_unfolding_all rfl) (by with_unfolding_all rfl) ?_ | refine q_unp (by simp only [setTs, List.map_cons, List.map_nil, List.set_cons_zero, List.set_cons_succ, fl_int]; rfl) ?_ | refine q_bind (by simp only [bindT, setTs, wipeF, List.map_cons, List.map_nil, List.set_cons_zero, List.set_cons_succ, fl_int]; rfl) ?_ | refine s_asgS2 (by simp only [view, List.map_cons, List.map_nil, vw_l, vw_k, vw_kt, vw_v, vw_sep, vw_no, seq_scal, sc_int, sc_lst, sc_tup, sc_strm, sc_str, sc_bl, sc_non]; rfl) ?_ | refine s_asgV2 (by simp only [view, List.map_cons, List.map_nil, vw_l, vw_k, vw_kt, vw_v, vw_sep, vw_no, seq_scal, sc_int, sc_lst, sc_tup, sc_strm, sc_str, sc_bl, sc_non]; rfl) ?_ | refine s_parS2 (by simp only [view, List.map_cons, List.map_nil, vw_l, vw_k, vw_kt, vw_v, vw_sep, vw_no, seq_scal, sc_int, sc_lst, sc_tup, sc_strm, sc_str, sc_bl, sc_non]; rfl) ?_ | refine e_sc2 (by simp only [view, List.map_cons, List.map_nil, vw_l, vw_k, vw_kt, vw_v, vw_sep, vw_no, seq_scal, sc_int, sc_lst, sc_tup, sc_strm, sc_str, sc_bl, sc_non]; rfl) ?_ | refine q_dpos rfl ?_ | refine q_nneg rfl ?_ | refine q_dpos (by omega) ?_ | refine q_dneg (by omega) ?_ | refine q_npos (by omega) ?_ | refine q_nneg (by omega) ?_ | refine q_dneg (by decide +kernel) ?_ | refine q_npos (by decide +kernel) ?_ | dsimp only)) | (refine q_is (by simp only [isTs, isT, D.ty, kit_NoneType_int, kit_NoneType_bool, kit_NoneType_str, kit_NoneType_list, kit_NoneType_tuple, kit_NoneType_dict, kit_bool_int, kit_bool_bool, kit_bool_str, kit_bool_list, kit_bool_tuple, kit_bool_dict, kit_int_int, kit_int_bool, kit_int_str, kit_int_list, kit_int_tuple, kit_int_dict, kit_str_int, kit_str_bool, kit_str_str, kit_str_list, kit_str_tuple, kit_str_dict, kit_list_int, kit_list_bool, kit_list_str, kit_list_list, kit_list_tuple, kit_list_dict, kit_tuple_int, kit_tuple_bool, kit_tuple_str, kit_tuple_list, kit_tuple_tuple, kit_tuple_dict, kit_dict_int, kit_dict_bool, kit_dict_str, kit_dict_list, kit_dict_tuple, kit_dict_dict]; rfl) ?_)))
local macro_rules | `(tactic| nofun) => `(tactic| repeat (first | (with_reducible (first | refine Stp.h ?_ | refine d_mod (by omega) ?_ | refine d_mul (mul60 (by omega) (by omega)) ?_ | refine d_div (divL (by omega) (by omega) (by omega)) ?_ | refine i_LI (by omega) (by omega) ?_ | refine i_SI (by omega) (by omega) ?_ | refine q_sz (leZ (by with_unfolding_all rfl)) ?_ | refine q_rng (by omega) (by omega) ?_ | refine q_rng2 ?_ (by omega) | refine q_szI (by omega) ?_ | refine q_szL (by first | omega | (simp only [List.length_append, List.length_map, List.length_cons, List.length_nil, List.length_range, List.length_take, List.length_drop, List.length_zipWith]; omega)) ?_ | refine q_szM (by first | omega | (simp only [List.length_append, List.length_map, List.length_cons, List.length_nil, List.length_range, List.length_take, List.length_drop, List.length_zipWith]; omega)) ?_ | refine q_rfl (by with_unfolding_all rfl) ?_ | refine q_kc (by with_unfolding_all rfl) (by with_unfolding_all rfl) (by with_unfolding_all rfl) ?_ | refine q_unp (by simp only [setTs, List.map_cons, List.map_nil, List.set_cons_zero, List.set_cons_succ, fl_int]; rfl) ?_ | refine q_bind (by simp only [bindT, setTs, wipeF, List.map_cons, List.map_nil, List.set_cons_zero, List.set_cons_succ, fl_int]; rfl) ?_ | refine s_asgS2 (by simp only [view, List.map_cons, List.map_nil, vw_l, vw_k, vw_kt, vw_v, vw_sep, vw_no, seq_scal, sc_int, sc_lst, sc_tup, sc_strm, sc_str, sc_bl, sc_non]; rfl) ?_ | refine s_asgV2 (by simp only [view, List.map_cons, List.map_nil, vw_l, vw_k, vw_kt, vw_v, vw_sep, vw_no, seq_scal, sc_int, sc_lst, sc_tup, sc_strm, sc_str, sc_bl, sc_non]; rfl) ?_ | refine s_parS2 (by simp only [view, List.map_cons, List.map_nil, vw_l, vw_k, vw_kt, vw_v, vw_sep, vw_no, seq_scal, sc_int, sc_lst, sc_tup, sc_strm, sc_str, sc_bl, sc_non]; rfl) ?_ | refine e_sc2 (by simp only [view, List.map_cons, List.map_nil, vw_l, vw_k, vw_kt, vw_v, vw_sep, vw_no, seq_scal, sc_int, sc_lst, sc_tup, sc_strm, sc_str, sc_bl, sc_non]; rfl) ?_ | refine q_dpos rfl ?_ | refine q_nneg rfl ?_ | refine q_dpos (by omega) ?_ | refine q_dneg (by omega) ?_ | refine q_npos (by omega) ?_ | refine q_nneg (by omega) ?_ | refine q_dneg (by decide +kernel) ?_ | refine q_npos (by decide +kernel) ?_ | dsimp only)) | (refine q_is (by simp only [isTs, isT, D.ty, kit_NoneType_int, kit_NoneType_bool, kit_NoneType_str, kit_NoneType_list, kit_NoneType_tuple, kit_NoneType_dict, kit_bool_int, kit_bool_bool, kit_bool_str, kit_bool_list, kit_bool_tuple, kit_bool_dict, kit_int_int, kit_int_bool, kit_int_str, kit_int_list, kit_int_tuple, kit_int_dict, kit_str_int, kit_str_bool, kit_str_str, kit_str_list, kit_str_tuple, kit_str_dict, kit_list_int, kit_list_bool, kit_list_str, kit_list_list, kit_list_tuple, kit_list_dict, kit_tuple_int, kit_tuple_bool, kit_tuple_str, kit_tuple_list, kit_tuple_tuple, kit_tuple_dict, kit_dict_int, kit_dict_bool, kit_dict_str, kit_dict_list, kit_dict_tuple, kit_dict_dict]; rfl) ?_)))
def Inv (p : Nat) : Prop := ∀ a : Int, 0 < a → a < p → ∃ b : Int, 1 ≤ b ∧ b < p ∧ a * b % p = 1
theorem inv2 : Inv 2 := fun a h0 h1 => ⟨1, by omega, by omega, by
  obtain rfl : a = 1 := by omega
  rfl⟩
def Rs (p : Int) (ns : List Int) : Prop := ∀ i ∈ ns, 0 ≤ i ∧ i < p
/-- the number that undoes one -/
def unL (p : Nat) (a : Int) : List Int := ((List.range (p - 1)).filter fun (i : Nat) => decide (a * (1 + (i : Int)) % p = 1)).map fun (i : Nat) => 1 + (i : Int)
theorem un_ok {p : Nat} (h : Inv p) {a : Int} (h0 : 0 < a) (h1 : a < p) : ∃ b bs, unL p a = b :: bs ∧ 1 ≤ b ∧ b < p ∧ a * b % p = 1 := by
  obtain ⟨b, b1, b2, b3⟩ := h a h0 h1
  have m : b ∈ unL p a := List.mem_map.mpr ⟨(b - 1).toNat, List.mem_filter.mpr ⟨List.mem_range.mpr (by omega), decide_eq_true (by rw [show 1 + (((b - 1).toNat : Nat) : Int) = b by omega]; exact b3)⟩, by omega⟩
  cases e : unL p a with
  | nil => rw [e] at m; cases m
  | cons c cs =>
    have mc : c ∈ unL p a := by rw [e]; exact List.mem_cons_self
    obtain ⟨i, hi, rfl⟩ := List.mem_map.mp mc
    obtain ⟨x1, x2⟩ := List.mem_filter.mp hi
    have x1 := List.mem_range.mp x1
    exact ⟨_, _, rfl, by omega, by omega, of_decide_eq_true x2⟩
theorem rep0 (m : Nat) : (List.replicate m [D.int 0]).flatten = (List.replicate m (0 : Int)).map D.int := by
  induction m with
  | zero => rfl
  | succ m ih => rw [List.replicate_succ, List.flatten_cons, ih, List.replicate_succ, List.map_cons]; rfl
def mF : XSs :=   (.cons (.asg 9 (.e (.bin .Mod (.bi .int (.ex (.bi .sum (.ex (.nl (.comp (.bin .Mult (.var 14) (.idx (.ex (.var 1)) (.bin .Sub (.var 2) (.var 18)))) [18, 14] [18, 14] (.enum (.ex (.var 4))) (.cons (.tc .LtE (.ex (.var 18)) (.ex (.var 2))) .nil))))))) (.var 0))))
  (.cons (.ife (.tc .Eq (.ex (.var 9)) (.ex (.int 0)))
  (.cons (.asg 7 (.e (.bin .Add (.var 7) (.int 1))))
  .nil)
  (.cons (.asg 10 (.e (.idx (.ex (.nl (.comp (.var 15) [15] [15] (.rng2 (.int 1) (.var 0)) (.cons (.tc .Eq (.ex (.bin .Mod (.bi .int (.ex (.bin .Mult (.var 8) (.var 15)))) (.var 0))) (.ex (.int 1))) .nil)))) (.int 0))))
  (.cons (.asg 11 (.e (.nl (.cat (.ex (.nl (.rep (.ex (.nl (.lit (.cons (.int 0) .nil)))) (.var 7)))) (.ex (.nl (.comp (.bin .Mod (.bi .int (.ex (.bin .Mult (.bin .Mult (.var 9) (.var 10)) (.var 14)))) (.var 0)) [14] [14] (.over (.ex (.var 5))) .nil)))))))
  (.cons (.asg 12 (.e (.bi2 .max (.bi .len (.ex (.var 4))) (.bi .len (.ex (.var 11))))))
  (.cons (.asg 13 (.e (.nl (.of (.ex (.var 4))))))
  (.cons (.asg 4 (.e (.nl (.sl (.ex (.nl (.comp (.bin .Mod (.bi .int (.ex (.bin .Sub (.var 16) (.var 17)))) (.var 0)) [16, 17] [16, 17] (.zip (.ex (.nl (.cat (.ex (.var 4)) (.ex (.nl (.rep (.ex (.nl (.lit (.cons (.int 0) .nil)))) (.var 12))))))) (.ex (.nl (.sl (.ex (.nl (.cat (.ex (.var 11)) (.ex (.nl (.rep (.ex (.nl (.lit (.cons (.int 0) .nil)))) (.var 12))))))) .no (.yes (.var 12)))))) .nil))) .no (.yes (.var 12))))))
  (.cons (.ife (.tc .LtE (.ex (.bin .Mult (.int 2) (.var 6))) (.ex (.var 2)))
  (.cons (.par [6, 5, 8, 7] [(.e (.bin .Sub (.bin .Add (.var 2) (.int 1)) (.var 6))), (.e (.var 13)), (.e (.var 9)), (.e (.int 1))])
  .nil)
  (.cons (.asg 7 (.e (.bin .Add (.var 7) (.int 1))))
  .nil))
  .nil)))))))
  .nil))
theorem massey (n : Nat) (K : DE) (p : Nat) (ns : List Int) (idx : Nat) (C B : List Int) (L gap : Nat) (last : Int) (c4 c5 : Bool) (hp : 2 ≤ p) (hp31 : p ≤ 31) (inv : Inv p) (hr : Rs p ns) (hl : ns.length ≤ 128) (hi : idx < ns.length) (ms : MS p (gdI ns) idx C B L gap last) (y3 y9 y10 y11 y12 y13 : Sl)
    (hk : ∀ C B L gap last c4 c5 z9 z10 z11 z12 z13, MS p (gdI ns) (idx + 1) C B L gap last → K.nx [.v (.int p) true, .v (.lst (ns.map D.int)) false, .v (.int (idx : Nat)) true, y3, .v (.lst (C.map D.int)) c4, .v (.lst (B.map D.int)) c5, .v (.int (L : Nat)) true, .v (.int (gap : Nat)) true, .v (.int last) true, z9, z10, z11, z12, z13, .no, .no, .no, .no, .no] n) :
    evSs (evF T 19) mF K [.v (.int p) true, .v (.lst (ns.map D.int)) false, .v (.int (idx : Nat)) true, y3, .v (.lst (C.map D.int)) c4, .v (.lst (B.map D.int)) c5, .v (.int (L : Nat)) true, .v (.int (gap : Nat)) true, .v (.int last) true, y9, y10, y11, y12, y13, .no, .no, .no, .no, .no] n := by
  unfold mF
  have lC := ms.fit.len
  have lL := ms.le
  have lB := ms.leB
  have g1 := ms.gap1
  have l0 := ms.l0
  have l1 := ms.l1
  infer_instance
  rw [enum_items]
  refine cg_filtI (fun i : Nat => gdI C i * gdI ns (idx - i)) (fun i => decide (i ≤ idx)) (by rw [List.length_range]; omega) (fun i hi k hk => ?_) ?_
  · have hi := List.mem_range.mp hi
    have ci := ms.cr _ (List.getElem_mem hi)
    rw [← gdI_at hi] at ci
    by_cases hc : i ≤ idx
    · rw [decide_eq_true hc, if_pos rfl] at hk
      have ni := hr _ (List.getElem_mem (show idx - i < ns.length by omega))
      rw [← gdI_at (by omega)] at ni
      have m1 := nmul (x := gdI C i) (y := gdI ns (idx - i)) (a := 31) (b := 31) (by omega) (by omega)
      infer_instance
      rw [show ((idx : Int) - (i : Int)).toNat = idx - i by omega]
      infer_instance
      exact hk
    · exact absurd (show i ≤ idx by omega) hc
  have e1 : (((List.range C.length).filter fun i => decide (i ≤ idx)).map fun i => gdI C i * gdI ns (idx - i)).sum = cv C (gdI ns) idx := ds_ok (gdI ns) C idx
  infer_instance
  rw [e1]
  generalize hd : cv C (gdI ns) idx % (p : Int) = d
  by_cases h0 : d = 0
  · infer_instance
    refine hk C B L (gap + 1) last _ _ _ _ _ _ _ (ms.same ?_)
    rw [h0] at hd
    exact Int.dvd_of_emod_eq_zero hd
  have d0 : 0 ≤ d := by rw [← hd]; exact Int.emod_nonneg _ (by omega)
  have d1 : d < p := by rw [← hd]; exact Int.emod_lt_of_pos _ (by omega)
  obtain ⟨b, bs, eb, b0, b1, b2⟩ := un_ok inv l0 l1
  infer_instance
  rw [show ((p : Int) - 1).toNat = p - 1 by omega]
  refine cg_filtI (fun i : Nat => 1 + (i : Int)) (fun i => decide (last * (1 + (i : Int)) % p = 1)) (by rw [List.length_range]; omega) (fun i hi k hk => ?_) ?_
  · have hi := List.mem_range.mp hi
    have m1 := nmul (x := last) (y := 1 + (i : Int)) (a := 31) (b := 31) (by omega) (by omega)
    infer_instance
    by_cases hc : last * (1 + (i : Int)) % p = 1
    · rw [decide_eq_true hc, if_pos rfl] at hk
      rw [decide_eq_true hc]
      infer_instance
      exact hk
    · rw [decide_eq_false hc, if_neg Bool.false_ne_true] at hk
      rw [decide_eq_false hc]
      infer_instance
      exact hk
  have eu : ((List.range (p - 1)).filter fun (i : Nat) => decide (last * (1 + (i : Int)) % p = 1)).map (fun (i : Nat) => 1 + (i : Int)) = b :: bs := eb
  rw [eu]
  infer_instance
  refine i_0 ?_
  infer_instance
  refine ⟨by omega, by omega, by rw [sizeLine_eq]; simp only [List.length_cons, List.length_nil]; omega, ?_⟩
  rw [show ((gap : Nat) : Int).toNat = gap from rfl, rep0, fls_ints]
  infer_instance
  rw [int_items]
  refine cg_ints (fun x => d * b * x % p) (by omega) (fun x hx k hk => ?_) ?_
  · have xr := ms.br _ hx
    have m1 := nmul (x := d) (y := b) (a := 31) (b := 31) (by omega) (by omega)
    have m2 := nmul (x := d * b) (y := x) (a := 961) (b := 31) (by omega) (by omega)
    infer_instance
    exact hk
  rw [fls_ints]
  refine ⟨by rw [sizeLine_eq]; simp only [List.length_map, List.length_replicate]; omega, ?_⟩
  rw [← List.map_append, show List.replicate gap 0 ++ B.map (fun x => d * b * x % (p : Int)) = stepL p d b gap B from rfl]
  have sl : (stepL p d b gap B).length = gap + B.length := by simp [stepL]
  have nx := ms.next (by omega) hd.symm h0 b2
  have hn : nowL p d b gap C B = (List.zipWith (fun x y => (x - y) % (p : Int)) (C ++ List.replicate (max C.length (stepL p d b gap B).length) 0) ((stepL p d b gap B ++ List.replicate (max C.length (stepL p d b gap B).length) 0).take (max C.length (stepL p d b gap B).length))).take (max C.length (stepL p d b gap B).length) := rfl
  have nl := now_len (p : Int) d b gap C B
  have nr := now_rs (p := (p : Int)) (by omega) d b gap C B
  generalize nowL p d b gap C B = N at nx hn nl nr
  generalize stepL p d b gap B = St at sl hn ⊢
  have ew : max ((C.length : Nat) : Int) (St.length : Int) = ((max C.length St.length : Nat) : Int) := by omega
  generalize hw : max C.length St.length = w at hn ew
  infer_instance
  rw [fls_ints]
  simp only [ew, Int.toNat_natCast, rep0]
  have szz : ([D.int 0].length * w ≤ sizeLine ∧ (C.map D.int).length + ((List.replicate w (0 : Int)).map D.int).length ≤ sizeLine) ∧ (St.map D.int).length + ((List.replicate w (0 : Int)).map D.int).length ≤ sizeLine := by
    rw [sizeLine_eq]
    simp only [List.length_map, List.length_replicate, List.length_cons, List.length_nil]
    omega
  refine ⟨by omega, by omega, szz.1.1, szz.1.2, ?_⟩
  rw [← List.map_append]
  infer_instance
  rw [show ((w : Nat) : Int).toNat = w from rfl, rep0]
  refine ⟨by omega, by omega, szz.1.1, szz.2, ?_⟩
  rw [← List.map_append]
  infer_instance
  rw [cut_to, ← List.map_take, zip_items]
  refine cg_ints (fun q => (q.1 - q.2) % p) (by rw [List.length_zip, List.length_append, List.length_replicate]; omega) (fun q hq k hk => ?_) ?_
  · infer_instance
    exact hk
  rw [zip_eq (fun a b => (a - b) % p), fls_ints]
  infer_instance
  rw [cut_to, ← List.map_take, ← hn, fls_ints]
  infer_instance
  by_cases hc : 2 * (L : Int) ≤ (idx : Int)
  · infer_instance
    have h1 := nx.1 (by omega)
    rw [show (idx : Int) + 1 - (L : Int) = ((idx + 1 - L : Nat) : Int) by omega]
    exact hk N C (idx + 1 - L) 1 d _ _ _ _ _ _ _ h1
  · infer_instance
    have h2 := nx.2 (by omega)
    exact hk N B L (gap + 1) last _ _ _ _ _ _ _ h2
def mE : XSs :=   (.cons (.asg 3 (.l (.comp (.bin .Mod (.bi .int (.ex (.bin .Sub (.int 0) (.var 14)))) (.var 0)) [14] [14] (.over (.ex (.nl (.sl (.ex (.nl (.cat (.ex (.var 4)) (.ex (.nl (.rep (.ex (.nl (.lit (.cons (.int 0) .nil)))) (.var 6))))))) (.yes (.int 1)) (.yes (.bin .Add (.var 6) (.int 1))))))) .nil)))
  (.cons (.frz 3 (.ret (.tup (.cons (.var 6) (.cons (.var 3) .nil)))))
  .nil))
def ruleM (p : Nat) (C : List Int) (L : Nat) : List Int := (((C ++ List.replicate L 0).drop 1).take L).map fun x => (0 - x) % (p : Int)
theorem cut_1m (xs : List D) (L : Nat) : DL.cutD xs (some 1) (some ((L : Int) + 1)) = (xs.drop 1).take L := by
  unfold DL.cutD
  rw [show (some 1 : Option Int) = some ((1 : Nat) : Int) from rfl, show (some ((L : Int) + 1) : Option Int) = some ((L + 1 : Nat) : Int) from rfl, HT.sIx_nat, HT.sIx_nat]
  cases xs with
  | nil => simp
  | cons x xs =>
    rw [List.length_cons, show min 1 (xs.length + 1) = 1 by omega, show min (L + 1) (xs.length + 1) - 1 = min L xs.length by omega]
    show xs.take (min L xs.length) = xs.take L
    rcases Nat.le_total L xs.length with h | h
    · rw [Nat.min_eq_left h]
    · rw [Nat.min_eq_right h, List.take_of_length_le (Nat.le_refl _), List.take_of_length_le h]
theorem fMassey (n : Nat) (k : KE) (p : Nat) (ns : List Int) (hp : 2 ≤ p) (hp31 : p ≤ 31) (inv : Inv p) (hr : Rs p ns) (hl : ns.length ≤ 128) (hk : ∀ C B L gap last c, MS p (gdI ns) ns.length C B L gap last → k (.tup [.int (L : Nat), .lst ((ruleM p C L).map D.int)], c) n) : evF T 20 13 [.int p, .lst (ns.map D.int)] n k := by
  have key : ∀ K : DE, K.rt = k → evSs (evF T 19) F13.body K [.v (.int p) true, .v (.lst (ns.map D.int)) false, .no, .no, .no, .no, .no, .no, .no, .no, .no, .no, .no, .no, .no, .no, .no, .no, .no] n := by
    intro K hK
    unfold F13
    dsimp only
    infer_instance
    show forGo _ ((List.range ns.length).map _) _ _ _
    have e1 : D.lst [D.int 1] = .lst (([1] : List Int).map D.int) := rfl
    refine fg_rng ns.length (fun i f n' => n' = n ∧ ∃ C B L gap last c4 c5 z2 z9 z10 z11 z12 z13, MS p (gdI ns) i C B L gap last ∧ f = [.v (.int p) true, .v (.lst (ns.map D.int)) false, z2, .no, .v (.lst (C.map D.int)) c4, .v (.lst (B.map D.int)) c5, .v (.int (L : Nat)) true, .v (.int (gap : Nat)) true, .v (.int last) true, z9, z10, z11, z12, z13, .no, .no, .no, .no, .no]) ⟨rfl, [1], [1], 0, 1, 1, _, _, _, _, _, _, _, _, ms_first (by omega) _, rfl⟩ ?_ ?_
    · rintro i hi f n' W ⟨rfl, C, B, L, gap, last, c4, c5, z2, z9, z10, z11, z12, z13, ms, rfl⟩ hW
      refine ⟨_, rfl, ?_⟩
      refine massey n' _ p ns i C B L gap last c4 c5 hp hp31 inv hr hl hi ms _ _ _ _ _ _ fun C B L gap last c4 c5 z9 z10 z11 z12 z13 h => ?_
      exact hW _ _ ⟨rfl, C, B, L, gap, last, _, _, _, _, _, _, _, _, h, rfl⟩
    · rintro f n' ⟨rfl, C, B, L, gap, last, c4, c5, z2, z9, z10, z11, z12, z13, ms, rfl⟩
      have lC := ms.fit.len
      have lL := ms.le
      infer_instance
      rw [show ((L : Nat) : Int).toNat = L from rfl, rep0]
      refine ⟨by omega, by omega, by rw [sizeLine_eq]; simp only [List.length_cons, List.length_nil]; omega, by rw [sizeLine_eq]; simp only [List.length_map, List.length_replicate]; omega, ?_⟩
      rw [← List.map_append]
      infer_instance
      rw [cut_1m, ← List.map_drop, ← List.map_take, int_items]
      refine cg_ints (fun x => (0 - x) % (p : Int)) (by rw [List.length_take]; omega) (fun x hx k hk => ?_) ?_
      · infer_instance
        exact hk
      have er : (((C ++ List.replicate L 0).drop 1).take L).map (fun x => (0 - x) % (p : Int)) = ruleM p C L := rfl
      rw [er, fls_ints]
      infer_instance
      rw [hK]
      exact hk C B L gap last _ ms
  refine f_go (F := F13) rfl rfl ?_
  exact key ⟨fun _ n => k (.non, true) n, k, fun _ _ => False⟩ rfl
end Lk62

set_option maxHeartbeats 4000000
namespace Lk62
open PySem PySem.Spec PyProof.Rows L2 DL HV MB GC
theorem same2 {d : D} (h1 : d.pl = true) (h2 : d.dep < 20) (n : Nat) (k : KE) (hk : k (.bl true, true) n) : evF T 20 8 [d, d] n k := same_ok (g := 8) rfl 20 d h1 h2 n k hk
theorem s_lateF {cf : Nat → List D → Nat → KE → Prop} {ss : XSs} {K : DE} {f : DL.Fr} {n i j : Nat} {ps qs : List D} (hf : f[i]? = some (.sep (.lst [.lst ps, .lst qs]))) (hij : i ≠ j) (hj : j < f.length) (hp : ∀ p ∈ ps, ∃ (s : Str) (ns : List Int), p = .tup [.str s, .lst (ns.map D.int)] ∧ ns.length + ps.length < sizeLine) (hm : D.muts [.lst ps, .lst qs] = true)
    (h : ∀ x ys zs, ys.length ≤ qs.length + ps.length → evSs cf ss K ((f.set i (.sep (.lst (x :: .lst ys :: zs)))).set j .no) n) : evSs cf (.cons (.lateF i j) ss) K f n := by
  show evS cf (.lateF i j) _ f n
  unfold evS
  rw [hf]
  exact ⟨hij, hj, hp, hm, h⟩
theorem e_rdw {cf : Nat → List D → Nat → KE → Prop} {f : DL.Fr} {n j m : Nat} {k : KE} (hf : f[j]? = some .scr) (h0 : 0 < (m : Int)) (h1 : (m : Int) < 2 ^ 62) (h : ∀ d : Int, 0 ≤ d → d < m → k (.int d, true) n) : evE cf (.rdw j m) f n k := ⟨hf, h0, h1, h⟩
theorem sts_pl {m : Nat} {ns : List Int} (h : Rw m ns) (hm : m ≤ 6) : (stsD m ns).pl = true ∧ (stsD m ns).dep ≤ 3 ∧ D.muts ((steps m ns).map stD) = true ∧ ((steps m ns).map stD).length = m := by
  have key : ∀ ss : List (Bool × List Int), (∀ s ∈ ss, Bt s.2 ∧ s.2.length ≤ 64) → D.pls (ss.map stD) = true ∧ D.deps (ss.map stD) ≤ 2 ∧ D.muts (ss.map stD) = true := by
    intro ss
    induction ss with
    | nil => intro _; exact ⟨rfl, by decide, rfl⟩
    | cons s ss ih =>
      intro hs
      obtain ⟨a, b, c⟩ := ih fun z hz => hs z (List.mem_cons_of_mem _ hz)
      obtain ⟨h1, h2⟩ := hs s List.mem_cons_self
      obtain ⟨p1, p2⟩ := ints_pl s.2 (by omega)
      have p3 : (D.lst (s.2.map D.int)).mut = true := by
        have : ∀ r : List Int, D.muts (r.map D.int) = true := fun r => by
          induction r with
          | nil => rfl
          | cons i r ih => rw [List.map_cons]; unfold D.muts; rw [ih]; rfl
        unfold D.mut
        exact this _
      have w1 : (wd s.1).pl = true := by
        cases s.1 <;> simp [wd, D.pl, ok_of]
      have w2 : (wd s.1).dep = 0 := by cases s.1 <;> rfl
      have w3 : (wd s.1).mut = true := by cases s.1 <;> rfl
      have e : stD s = .tup [wd s.1, .lst (s.2.map D.int)] := rfl
      rw [List.map_cons, e]
      refine ⟨?_, ?_, ?_⟩
      · unfold D.pls
        rw [a, Bool.and_true]
        unfold D.pl D.pls D.pls D.pls
        rw [w1, p1]
        simp [sizeLine_eq]
      · have : D.deps (D.tup [wd s.1, .lst (s.2.map D.int)] :: ss.map stD) = max (D.tup [wd s.1, .lst (s.2.map D.int)]).dep (D.deps (ss.map stD)) := rfl
        rw [this]
        have q : (D.tup [wd s.1, .lst (s.2.map D.int)]).dep ≤ 2 := by
          unfold D.dep D.deps D.deps D.deps
          omega
        omega
      · unfold D.muts
        rw [c, Bool.and_true]
        unfold D.mut D.muts D.muts D.muts
        rw [w3, p3]; rfl
  obtain ⟨a, b, c⟩ := key (steps m ns) fun s hs => by
    obtain ⟨x1, x2⟩ := steps_rw m ns h s hs
    have := two_le hm
    exact ⟨x1, by omega⟩
  have l := steps_len m ns
  refine ⟨?_, ?_, c, by rw [List.length_map, l]⟩
  · unfold stsD D.pl
    rw [a, List.length_map, l, decide_eq_true (by rw [sizeLine_eq]; omega)]; rfl
  · unfold stsD D.dep
    omega
theorem massey_hl {m : Nat} {x C B : List Int} {L gap : Nat} {last : Int} (h : Rw m x) (ms : MS ((2 : Nat) : Int) (gdI (x ++ x)) (x ++ x).length C B L gap last) : L = hl m x := by
  have a := ms.least _ _ (hl_fits h)
  have b := hl_least h ms.fit
  omega
local macro_rules | `(tactic| infer_instance) => `(tactic| repeat (first | (with_reducible (first | refine Stp.h ?_ | refine StpS.h ?_ | refine d_mod (by omega) ?_ | refine d_mul (mul60 (by omega) (by omega)) ?_ | refine d_div (divL (by omega) (by omega) (by omega)) ?_ | refine i_LI (by omega) (by omega) ?_ | refine i_SI (by omega) (by omega) ?_ | refine q_sz (leZ (by with_unfolding_all rfl)) ?_ | refine q_rng (by omega) (by omega) ?_ | refine q_rng2 ?_ (by omega) | refine q_szI (by omega) ?_ | refine q_szL (by first | omega | (simp only [List.length_append, List.length_map, List.length_cons, List.length_nil, List.length_range, List.length_take, List.length_drop, List.length_zipWith]; omega)) ?_ | refine q_szM (by first | omega | (simp only [List.length_append, List.length_map, List.length_cons, List.length_nil, List.length_range, List.length_take, List.length_drop, List.length_zipWith]; omega)) ?_ | refine q_rfl (by with_unfolding_all rfl) ?_ | refine q_kc (by with_unfolding_all rfl) (by with_unfolding_all rfl) (by with_unfolding_all rfl) ?_ | refine q_unp (by simp only [setTs, List.map_cons, List.map_nil, List.set_cons_zero, List.set_cons_succ, fl_int]; rfl) ?_ | refine q_bind (by simp only [bindT, setTs, wipeF, List.map_cons, List.map_nil, List.set_cons_zero, List.set_cons_succ, fl_int]; rfl) ?_ | refine s_asgS2 (by simp only [view, List.map_cons, List.map_nil, vw_l, vw_k, vw_kt, vw_v, vw_sep, vw_no, seq_scal, sc_int, sc_lst, sc_tup, sc_strm, sc_str, sc_bl, sc_non]; rfl) ?_ | refine s_asgV2 (by simp only [view, List.map_cons, List.map_nil, vw_l, vw_k, vw_kt, vw_v, vw_sep, vw_no, seq_scal, sc_int, sc_lst, sc_tup, sc_strm, sc_str, sc_bl, sc_non]; rfl) ?_ | refine s_parS2 (by simp only [view, List.map_cons, List.map_nil, vw_l, vw_k, vw_kt, vw_v, vw_sep, vw_no, seq_scal, sc_int, sc_lst, sc_tup, sc_strm, sc_str, sc_bl, sc_non]; rfl) ?_ | refine e_sc2 (by simp only [view, List.map_cons, List.map_nil, vw_l, vw_k, vw_kt, vw_v, vw_sep, vw_no, seq_scal, sc_int, sc_lst, sc_tup, sc_strm, sc_str, sc_bl, sc_non]; rfl) ?_ | refine q_dpos rfl ?_ | refine q_nneg rfl ?_ | refine q_dpos (by omega) ?_ | refine q_dneg (by omega) ?_ | refine q_npos (by omega) ?_ | refine q_nneg (by omega) ?_ | refine q_dneg (by decide +kernel) ?_ | refine q_npos (by decide +kernel) ?_ | dsimp only)) | (refine q_is (by simp only [isTs, isT, D.ty, kit_NoneType_int, kit_NoneType_bool, kit_NoneType_str, kit_NoneType_list, kit_NoneType_tuple, kit_NoneType_dict, kit_bool_int, kit_bool_bool, kit_bool_str, kit_bool_list, kit_bool_tuple, kit_bool_dict, kit_int_int, kit_int_bool, kit_int_str, kit_int_list, kit_int_tuple, kit_int_dict, kit_str_int, kit_str_bool, kit_str_str, kit_str_list, kit_str_tuple, kit_str_dict, kit_list_int, kit_list_bool, kit_list_str, kit_list_list, kit_list_tuple, kit_list_dict, kit_tuple_int, kit_tuple_bool, kit_tuple_str, kit_tuple_list, kit_tuple_tuple, kit_tuple_dict, kit_dict_int, kit_dict_bool, kit_dict_str, kit_dict_list, kit_dict_tuple, kit_dict_dict]; rfl) ?_)))
local macro_rules | `(tactic| nofun) => `(tactic| repeat (first | (with_reducible (first | refine Stp.h ?_ | refine d_mod (by omega) ?_ | refine d_mul (mul60 (by omega) (by omega)) ?_ | refine d_div (divL (by omega) (by omega) (by omega)) ?_ | refine i_LI (by omega) (by omega) ?_ | refine i_SI (by omega) (by omega) ?_ | refine q_sz (leZ (by with_unfolding_all rfl)) ?_ | refine q_rng (by omega) (by omega) ?_ | refine q_rng2 ?_ (by omega) | refine q_szI (by omega) ?_ | refine q_szL (by first | omega | (simp only [List.length_append, List.length_map, List.length_cons, List.length_nil, List.length_range, List.length_take, List.length_drop, List.length_zipWith]; omega)) ?_ | refine q_szM (by first | omega | (simp only [List.length_append, List.length_map, List.length_cons, List.length_nil, List.length_range, List.length_take, List.length_drop, List.length_zipWith]; omega)) ?_ | refine q_rfl (by with_unfolding_all rfl) ?_ | refine q_kc (by with_unfolding_all rfl) (by with_unfolding_all rfl) (by with_unfolding_all rfl) ?_ | refine q_unp (by simp only [setTs, List.map_cons, List.map_nil, List.set_cons_zero, List.set_cons_succ, fl_int]; rfl) ?_ | refine q_bind (by simp only [bindT, setTs, wipeF, List.map_cons, List.map_nil, List.set_cons_zero, List.set_cons_succ, fl_int]; rfl) ?_ | refine s_asgS2 (by simp only [view, List.map_cons, List.map_nil, vw_l, vw_k, vw_kt, vw_v, vw_sep, vw_no, seq_scal, sc_int, sc_lst, sc_tup, sc_strm, sc_str, sc_bl, sc_non]; rfl) ?_ | refine s_asgV2 (by simp only [view, List.map_cons, List.map_nil, vw_l, vw_k, vw_kt, vw_v, vw_sep, vw_no, seq_scal, sc_int, sc_lst, sc_tup, sc_strm, sc_str, sc_bl, sc_non]; rfl) ?_ | refine s_parS2 (by simp only [view, List.map_cons, List.map_nil, vw_l, vw_k, vw_kt, vw_v, vw_sep, vw_no, seq_scal, sc_int, sc_lst, sc_tup, sc_strm, sc_str, sc_bl, sc_non]; rfl) ?_ | refine e_sc2 (by simp only [view, List.map_cons, List.map_nil, vw_l, vw_k, vw_kt, vw_v, vw_sep, vw_no, seq_scal, sc_int, sc_lst, sc_tup, sc_strm, sc_str, sc_bl, sc_non]; rfl) ?_ | refine q_dpos rfl ?_ | refine q_nneg rfl ?_ | refine q_dpos (by omega) ?_ | refine q_dneg (by omega) ?_ | refine q_npos (by omega) ?_ | refine q_nneg (by omega) ?_ | refine q_dneg (by decide +kernel) ?_ | refine q_npos (by decide +kernel) ?_ | dsimp only)) | (refine q_is (by simp only [isTs, isT, D.ty, kit_NoneType_int, kit_NoneType_bool, kit_NoneType_str, kit_NoneType_list, kit_NoneType_tuple, kit_NoneType_dict, kit_bool_int, kit_bool_bool, kit_bool_str, kit_bool_list, kit_bool_tuple, kit_bool_dict, kit_int_int, kit_int_bool, kit_int_str, kit_int_list, kit_int_tuple, kit_int_dict, kit_str_int, kit_str_bool, kit_str_str, kit_str_list, kit_str_tuple, kit_str_dict, kit_list_int, kit_list_bool, kit_list_str, kit_list_list, kit_list_tuple, kit_list_dict, kit_tuple_int, kit_tuple_bool, kit_tuple_str, kit_tuple_list, kit_tuple_tuple, kit_tuple_dict, kit_dict_int, kit_dict_bool, kit_dict_str, kit_dict_list, kit_dict_tuple, kit_dict_dict]; rfl) ?_)))
def b15 : XSs :=   (.cons (.ife (.tc .NotEq (.ex (.idx (.ex (.call 13 (.cons (.int 2) (.cons (.nl (.cat (.ex (.var 5)) (.ex (.var 5)))) .nil)))) (.int 0))) (.ex (.var 11)))
  (.cons (.ret (.bl false))
  .nil)
  .nil)
  .nil)
def b11 : XSs :=   (.cons (.ife (.to (.cons (.tn (.tv (.call 8 (.cons (.var 7) (.cons (.nl (.lit (.cons (.var 11) (.cons (.var 11) .nil)))) .nil))))) (.cons (.tn (.tv (.call 8 (.cons (.call 5 (.cons (.var 9) .nil)) (.cons (.var 10) .nil))))) (.cons (.tc .NotEq (.ex (.bi .repr (.ex (.var 9)))) (.ex (.var 12))) .nil))))
  (.cons (.ret (.bl false))
  .nil)
  .nil) b15)
def b8 : XSs :=   (.cons (.lateF 13 6)
  (.cons (.lateP 13 1)
  (.cons (.asg 7 (.e (.nl (.lit (.cons (.call 7 (.cons (.var 9) .nil)) (.cons (.kcall 7 .nil ["numbers"] (.cons (.bi .tuple (.ex (.var 5))) .nil) [0]) .nil)))))) b11)))
def b4 : XSs :=   (.cons (.ife (.tn (.tv (.sc (.call 8 (.cons (.var 13) (.cons (.nl (.lit (.cons (.var 10) (.cons (.var 10) .nil)))) .nil))))))
  (.cons (.ret (.bl false))
  .nil)
  .nil) b8)
def b2 : XSs :=   (.cons (.par [9, 10, 11] [(.e (.call 9 (.cons (.var 1) (.cons (.var 5) .nil)))), (.e (.call 11 (.cons (.var 5) .nil))), (.e (.call 12 (.cons (.var 5) .nil)))])
  (.cons (.parS 12 13 (.bi .repr (.ex (.var 9))) (.nl (.lit (.cons (.call 5 (.cons (.var 9) .nil)) (.cons (.kcall 5 .nil ["numbers"] (.cons (.nl (.of (.ex (.var 5)))) .nil) [0]) .nil))))) b4))
def b1 : XSs :=   (.cons (.asg 5 (.e (.call 14 (.cons (.var 1) (.cons (.ife (.tc .Lt (.ex (.var 2)) (.ex (.int 3))) (.int 6) (.int 4)) .nil))))) b2)
theorem c15 (n : Nat) (K : DE) (m : Nat) (ns : List Int) (u c5 c9 c10 : Bool) (lk : Str) (h : Rw m ns) (hm : m ≤ 6) (os : PyData.strOk lk = true) (hrep : ∀ (b : Bool) (k : DB → Prop), k (.str lk, true) → biD .repr (seqD u ns, b) k) (y2 y3 y4 y6 y7 y8 y13 y14 : Sl) (hk : K.nx [.scr, .v .strm false, y2, y3, y4, .v (.lst (ns.map D.int)) c5, y6, y7, y8, .v (seqD u ns) c9, .v (stsD m ns) c10, .v (.int (hl m ns : Nat)) true, .v (.str lk) true, y13, y14] n) : evSs (evF T 20) b15 K [.scr, .v .strm false, y2, y3, y4, .v (.lst (ns.map D.int)) c5, y6, y7, y8, .v (seqD u ns) c9, .v (stsD m ns) c10, .v (.int (hl m ns : Nat)) true, .v (.str lk) true, y13, y14] n := by
  have hl := h.len
  have hp := two_le hm
  unfold b15
  infer_instance
  rw [← List.map_append]
  have r2 : Rs ((2 : Nat) : Int) (ns ++ ns) := fun i hi => by
    rcases List.mem_append.mp hi with z | z <;> have := h.bt i z <;> omega
  show evF T 20 13 [.int ((2 : Nat) : Int), .lst ((ns ++ ns).map D.int)] _ _
  refine fMassey _ _ 2 (ns ++ ns) (by omega) (by omega) inv2 r2 (by rw [List.length_append]; omega) fun C B L gap last c ms => ?_
  have e := massey_hl h ms
  subst e
  infer_instance
  exact hk
theorem c11 (n : Nat) (K : DE) (m : Nat) (ns : List Int) (u c5 c9 c10 : Bool) (lk : Str) (h : Rw m ns) (hm : m ≤ 6) (os : PyData.strOk lk = true) (hrep : ∀ (b : Bool) (k : DB → Prop), k (.str lk, true) → biD .repr (seqD u ns, b) k) (y2 y3 y4 y6 y8 y13 y14 : Sl) (c7 : Bool) (hk : ∀ z7, K.nx [.scr, .v .strm false, y2, y3, y4, .v (.lst (ns.map D.int)) c5, y6, z7, y8, .v (seqD u ns) c9, .v (stsD m ns) c10, .v (.int (hl m ns : Nat)) true, .v (.str lk) true, y13, y14] n) : evSs (evF T 20) b11 K [.scr, .v .strm false, y2, y3, y4, .v (.lst (ns.map D.int)) c5, y6, .v (.lst [.int (hl m ns : Nat), .int (hl m ns : Nat)]) c7, y8, .v (seqD u ns) c9, .v (stsD m ns) c10, .v (.int (hl m ns : Nat)) true, .v (.str lk) true, y13, y14] n := by
  obtain ⟨p1, p2, _⟩ := sts_pl h hm
  unfold b11
  infer_instance
  refine same2 (d := .lst [.int (hl m ns : Nat), .int (hl m ns : Nat)]) (by simp [D.pl, D.pls, sizeLine_eq]) (by simp [D.dep, D.deps]) _ _ ?_
  infer_instance
  refine fHalves 17 _ _ u ns m h hm ?_
  infer_instance
  refine same2 (d := stsD m ns) p1 (by omega) _ _ ?_
  infer_instance
  refine hrep _ _ ?_
  infer_instance
  refine neS os ?_
  infer_instance
  exact c15 n K m ns u c5 c9 c10 lk h hm os hrep _ _ _ _ _ _ _ _ (hk _)
theorem c8 (n : Nat) (K : DE) (m : Nat) (ns : List Int) (u c5 c9 c10 : Bool) (lk : Str) (h : Rw m ns) (hm : m ≤ 6) (os : PyData.strOk lk = true) (hrep : ∀ (b : Bool) (k : DB → Prop), k (.str lk, true) → biD .repr (seqD u ns, b) k) (y2 y3 y4 y6 y7 y8 y14 : Sl) (hk : ∀ z6 z7 z13, K.nx [.scr, .v .strm false, y2, y3, y4, .v (.lst (ns.map D.int)) c5, z6, z7, y8, .v (seqD u ns) c9, .v (stsD m ns) c10, .v (.int (hl m ns : Nat)) true, .v (.str lk) true, z13, y14] n) : evSs (evF T 20) b8 K [.scr, .v .strm false, y2, y3, y4, .v (.lst (ns.map D.int)) c5, y6, y7, y8, .v (seqD u ns) c9, .v (stsD m ns) c10, .v (.int (hl m ns : Nat)) true, .v (.str lk) true, .sep (.lst [stsD m ns, stsD m ns]), y14] n := by
  obtain ⟨p1, p2, p3, p4⟩ := sts_pl h hm
  have hp := two_le hm
  unfold b8
  refine s_lateF (ps := (steps m ns).map stD) (qs := (steps m ns).map stD) rfl (by decide) (by simp) (fun p hp' => ?_) ?_ fun x ys zs hy => ?_
  · obtain ⟨s, hs, rfl⟩ := List.mem_map.mp hp'
    obtain ⟨x1, x2⟩ := steps_rw m ns h s hs
    refine ⟨_, s.2, rfl, ?_⟩
    rw [sizeLine_eq, p4]
    omega
  · unfold D.muts D.muts D.muts D.mut
    rw [p3]; rfl
  refine s_lateL (xs := x :: .lst ys :: zs) (ys := ys) rfl rfl (by omega) (by decide) ?_
  show evSs (evF T 20) _ _ [.scr, .v .strm false, y2, y3, y4, .v (.lst (ns.map D.int)) c5, .no, y7, y8, .v (seqD u ns) c9, .v (stsD m ns) c10, .v (.int (hl m ns : Nat)) true, .v (.str lk) true, .no, y14] _
  infer_instance
  refine fRound 17 _ _ u ns m h hm ?_
  infer_instance
  show evF T 20 7 [seqD false ns] _ _
  refine fRound 17 _ _ false ns m h hm ?_
  infer_instance
  refine c11 n K m ns u c5 c9 c10 lk h hm os hrep _ _ _ _ _ _ _ _ fun z7 => ?_
  exact hk _ _ _
theorem c2 (n : Nat) (K : DE) (m : Nat) (ns : List Int) (c5 : Bool) (h : Rw m ns) (hm : m ≤ 6) (hn : 10 ≤ n) (y2 y3 y4 y6 y7 y8 y9 y10 y11 y12 y13 y14 : Sl) (hk : ∀ n' z6 z7 z9 z10 z11 z12 z13, n - 10 ≤ n' → K.nx [.scr, .v .strm false, y2, y3, y4, .v (.lst (ns.map D.int)) c5, z6, z7, y8, z9, z10, z11, z12, z13, y14] n') : evSs (evF T 20) b2 K [.scr, .v .strm false, y2, y3, y4, .v (.lst (ns.map D.int)) c5, y6, y7, y8, y9, y10, y11, y12, y13, y14] n := by
  obtain ⟨p1, p2, p3, p4⟩ := sts_pl h hm
  have hp := two_le hm
  have hl := h.len
  have g := gd_bits (t := true) h.bt (by omega)
  unfold b2
  infer_instance
  refine loose_gd (tb := T) (g := 9) rfl 20 _ (by decide) _ (seqD true ns) g (by omega) fun e c7 n2 he hn2 => ?_
  obtain ⟨u, rfl⟩ := lo_ints he
  obtain ⟨eg, lk, os, hrep⟩ := repr_lo g he
  infer_instance
  refine fLSteps 19 _ _ ns m h hm fun c10 => ?_
  infer_instance
  refine fLHl 18 _ _ ns m h hm ?_
  infer_instance
  refine hrep _ _ ?_
  infer_instance
  refine fHalves 17 _ _ u ns m h hm ?_
  infer_instance
  show evF T 20 5 [seqD true ns] _ _
  refine fHalves 17 _ _ true ns m h hm ?_
  infer_instance
  unfold b4
  infer_instance
  refine same2 (d := .lst [stsD m ns, stsD m ns]) (by simp [D.pl, D.pls, p1, sizeLine_eq]) (by simp [D.dep, D.deps]; omega) _ _ ?_
  infer_instance
  refine c8 _ K m ns u _ _ _ lk h hm os hrep _ _ _ _ _ _ _ fun z6 z7 z13 => ?_
  exact hk _ _ _ _ _ _ _ _ (by omega)
theorem turn (n t : Nat) (K : DE) (hn : 200 ≤ n) (y3 y4 y5 y6 y7 y8 y9 y10 y11 y12 y13 y14 : Sl) (hk : ∀ n' z5 z6 z7 z9 z10 z11 z12 z13, n - 160 ≤ n' → K.nx [.scr, .v .strm false, .v (.int (t : Nat)) true, y3, y4, z5, z6, z7, y8, z9, z10, z11, z12, z13, y14] n') : evSs (evF T 20) b1 K [.scr, .v .strm false, .v (.int (t : Nat)) true, y3, y4, y5, y6, y7, y8, y9, y10, y11, y12, y13, y14] n := by
  unfold b1
  by_cases ht : (t : Int) < 3
  · infer_instance
    refine fTwos 18 _ _ 6 (by decide) (by omega) fun s ns n1 hs h hn1 => ?_
    infer_instance
    refine c2 n1 K s ns _ h hs (by omega) _ _ _ _ _ _ _ _ _ _ _ _ fun n' z6 z7 z9 z10 z11 z12 z13 hn' => ?_
    exact hk _ _ _ _ _ _ _ _ _ (by omega)
  · infer_instance
    refine fTwos 18 _ _ 4 (by decide) (by omega) fun s ns n1 hs h hn1 => ?_
    infer_instance
    refine c2 n1 K s ns _ h (by omega) (by omega) _ _ _ _ _ _ _ _ _ _ _ _ fun n' z6 z7 z9 z10 z11 z12 z13 hn' => ?_
    exact hk _ _ _ _ _ _ _ _ _ (by omega)
def lowB : XSs :=   (.cons (.par2 5 14 (.l (.lit .nil)) (.e (.bin .Add (.bin .Mult (.int 32) (.var 3)) (.var 4))))
  (.cons (.for [8] (.rng1 (.int 8))
  (.cons (.app 5 (.bin .Mod (.bi .int (.ex (.var 14))) (.int 2)))
  (.cons (.asg 14 (.e (.bin .FloorDiv (.var 14) (.int 2))))
  .nil)))
  (.cons (.ife (.tn (.tv (.sc (.call 8 (.cons (.call 7 (.cons (.nl (.of (.ex (.var 5)))) .nil)) (.cons (.call 12 (.cons (.var 5) .nil)) .nil))))))
  (.cons (.ret (.bl false))
  .nil)
  .nil)
  .nil)))
theorem low (n num i : Nat) (K : DE) (hnum : num < 8) (hi : i < 32) (y2 y5 y6 y7 y8 y9 y10 y11 y12 y13 y14 : Sl) (hk : ∀ z5 z8 z14, K.nx [.scr, .v .strm false, y2, .v (.int (num : Nat)) true, .v (.int (i : Nat)) true, z5, y6, y7, z8, y9, y10, y11, y12, y13, z14] n) : evSs (evF T 20) lowB K [.scr, .v .strm false, y2, .v (.int (num : Nat)) true, .v (.int (i : Nat)) true, y5, y6, y7, y8, y9, y10, y11, y12, y13, y14] n := by
  unfold lowB
  infer_instance
  show forGo _ ((List.range 8).map _) _ _ _
  refine fg_rng 8 (fun j f n' => n' = n ∧ ∃ (r : List Int) (z : Nat) (z8 : Sl), r.length = j ∧ Bt r ∧ z < 300 ∧ f = [.scr, .v .strm false, y2, .v (.int (num : Nat)) true, .v (.int (i : Nat)) true, .l (r.map D.int) true, y6, y7, z8, y9, y10, y11, y12, y13, .v (.int (z : Nat)) true]) ⟨rfl, [], 32 * num + i, _, rfl, nofun, by omega, by rw [show ((32 * num + i : Nat) : Int) = 32 * (num : Int) + (i : Int) by omega]; rfl⟩ ?_ ?_
  · rintro j hj f n' W ⟨rfl, r, z, z8, hr, hb, hz, rfl⟩ hW
    refine ⟨_, rfl, ?_⟩
    infer_instance
    have e1 : r.map D.int ++ [D.int ((z : Int) % 2)] = (r ++ [(z : Int) % 2]).map D.int := by rw [List.map_append]; rfl
    rw [e1, show (z : Int) / 2 = ((z / 2 : Nat) : Int) by omega]
    exact hW _ _ ⟨rfl, _, _, _, by rw [List.length_append, hr]; rfl, fun x hx => by
      rcases List.mem_append.mp hx with y | y
      · exact hb x y
      · rw [List.mem_singleton.mp y]; omega, by omega, rfl⟩
  · rintro f n' ⟨rfl, r, z, z8, hr, hb, hz, rfl⟩
    have h : Rw 3 r := ⟨hr, hb⟩
    infer_instance
    show evF T 20 7 [seqD true r] _ _
    refine fRound 17 _ _ true r 3 h (by omega) ?_
    infer_instance
    refine fLHl 18 _ _ r 3 h (by omega) ?_
    infer_instance
    refine same2 (d := .int (hl 3 r : Nat)) rfl (by unfold D.dep; decide) _ _ ?_
    infer_instance
    exact hk _ _ _
theorem plain : PlainS (tb.map (·.F)) 20 IL.N.length IL.F.body := by
  show evSs (evF T 20) FL.body _ _ _
  show evSs _ _ _ [.scr, .v .strm false, .no, .no, .no, .no, .no, .no, .no, .no, .no, .no, .no, .no, .no] _
  unfold FL
  dsimp only
  infer_instance
  show forGo _ ((List.range 8).map _) _ _ _
  refine fg_rng 8 (fun i f n => 160 * (20 - i) ≤ n ∧ ∃ z2 z5 z6 z7 z9 z10 z11 z12 z13, f = [.scr, .v .strm false, z2, .no, .no, z5, z6, z7, .no, z9, z10, z11, z12, z13, .no]) ⟨by decide, _, _, _, _, _, _, _, _, _, rfl⟩ ?_ ?_
  · rintro i hi f n W ⟨hn, z2, z5, z6, z7, z9, z10, z11, z12, z13, rfl⟩ hW
    refine ⟨_, rfl, ?_⟩
    refine turn n i _ (by omega) _ _ _ _ _ _ _ _ _ _ _ _ fun n' w5 w6 w7 w9 w10 w11 w12 w13 h => ?_
    exact hW _ _ ⟨by omega, _, _, _, _, _, _, _, _, _, rfl⟩
  · rintro f n ⟨hn, z2, z5, z6, z7, z9, z10, z11, z12, z13, rfl⟩
    infer_instance
    refine e_rdw rfl (by decide) (by decide) fun d d0 d1 => ?_
    obtain ⟨d, rfl⟩ : ∃ m : Nat, d = m := ⟨d.toNat, by omega⟩
    infer_instance
    show forGo _ ((List.range 32).map _) _ _ _
    refine fg_rng 32 (fun i f n' => n' = n ∧ ∃ x4 x5 x8 x14, f = [.scr, .v .strm false, z2, .v (.int (d : Nat)) true, x4, x5, z6, z7, x8, z9, z10, z11, z12, z13, x14]) ⟨rfl, _, _, _, _, rfl⟩ ?_ ?_
    · rintro i hi f n' W ⟨rfl, x4, x5, x8, x14, rfl⟩ hW
      refine ⟨_, rfl, ?_⟩
      refine low n' d i _ (by omega) hi _ _ _ _ _ _ _ _ _ _ _ fun z5 z8 z14 => ?_
      exact hW _ _ ⟨rfl, _, _, _, _, rfl⟩
    · rintro f n' ⟨rfl, x4, x5, x8, x14, rfl⟩
      infer_instance
end Lk62

set_option maxHeartbeats 0
/-! the head and the end of k62 -/
namespace Lk62
open PySem PySem.Spec PyProof.Rows L2 DL
abbrev R : PySem.W.OpenRow := PySem.W.OpenLaw.row PySem.Challenge.rw_nextbylast_k62_whole_main_lengths_by_hal
abbrev hk : PySem.W.Hook := hookE 4 (faL CT ID IS IL (ex ++ tb)) (fnL ID IS IL (ex ++ tb)) (exB CT)
def ob (s : PySem.W.SharedT) : He.AlD × Bool := obsE 4 (faL CT ID IS IL (ex ++ tb)) (fnL ID IS IL (ex ++ tb)) (exB CT) (HandSHeadRun.getT s)
theorem ob_eq (s : PySem.W.SharedT) : ob s = hk.obs s.abs := obsE_eq (HandSHeadRun.getT_eq s)
def loose : List Str := (["is_list", "is_whole", "NextError", "BadTwos", "is_power", "check_twos", "steps_of", "halves", "length_of", "round_length", "_law_stream", "_law_draw", "_law_same", "_law_loose", "_law_power", "_law_halves", "_law_half_length", "_law_massey", "_law_twos"] : List Str)
theorem run (w : World) : HandSHeadRun.RunEq R (PySem.W.view R.prog [24]) hk ob 4000 loose w := by
  intro os
  kernel_rfl
theorem facts {P : Program} {w : World} {K : PySem.W.Frag} {h : Heap} {mg : Str → Option Value} {f : Addr} (X : K.In h) (G : h.Ns mainGlobals mg) (hfa : mg ("law" : Str) = some (.ref f)) (c : He.SaysD (faL CT ID IS IL (ex ++ tb)) (fnL ID IS IL (ex ++ tb)) K) (hex : exB CT K = true) :
    ∃ fd : FuncData, (∀ (s : Shared) (v : Value), BindsTo s fd ⟨[v], []⟩ [("script", v)]) ∧ ∀ base : Heap, K.In base → base.Ns mainGlobals mg → FnG P w K mg base CXd (lvl 20 + 2) f ["script"] fd (spLaw K) :=
  facts_of (d := 20) (rest := rest) lawT rfl rfl rfl rfl chk (.inr plain) X G hfa c hex
end Lk62
open PySem PySem.W PySem.Calls PyProof.Rows
theorem PySem.Challenge.cw_nextbylast_k62_whole_main_lengths_by_hal_holds : PySem.Challenge.rw_nextbylast_k62_whole_main_lengths_by_hal.Holds := by
  w_on; o_law
  refine HandSHeadRun.head_any (r := OpenLaw.row PySem.Challenge.rw_nextbylast_k62_whole_main_lengths_by_hal) (q := view (OpenLaw.row PySem.Challenge.rw_nextbylast_k62_whole_main_lengths_by_hal).prog [24]) (H := Lk62.hk) (ob := Lk62.ob) (M := 4000) (loose := Lk62.loose) (d := HandSHeadRun.topDef (OpenLaw.row PySem.Challenge.rw_nextbylast_k62_whole_main_lengths_by_hal).prog 24) (kwd := []) Lk62.ob_eq
    (by kernel_rfl) (fun s => by kernel_rfl) Lk62.run (by kernel_rfl) (by kernel_rfl) (by kernel_rfl) (by rfl) (by first | assumption | decide +kernel) (by decide +kernel) ⟨rfl, rfl, rfl, rfl, rfl, by decide +kernel⟩ ?hw ?hc
  case hw => w_witness2
  case hc =>
    refine DL.walkG (l := PySem.Challenge.rw_nextbylast_k62_whole_main_lengths_by_hal) (n := 63) (k := 54) (x := "script") (CX := DL.CXd) rfl (by decide) (by kernel_rfl) ⟨rfl, by decide, by decide⟩ ?F (fun _ _ _ _ z => z)
    intro w mg fa h Y G hmg0
    obtain ⟨K, KX, c, hex⟩ := Y
    have hmg : mg ("law" : PySem.Str) = some (.ref fa) := by
      have e : (HandSHeadRun.topDef (OpenLaw.row PySem.Challenge.rw_nextbylast_k62_whole_main_lengths_by_hal).prog 24).name = ("law" : PySem.Str) := by kernel_rfl
      rw [← e]
      exact hmg0
    obtain ⟨fd, hb, hF⟩ := Lk62.facts (P := (PySem.Challenge.rw_nextbylast_k62_whole_main_lengths_by_hal).prog) (w := w) KX G hmg c hex
    exact ⟨K, fd, DL.spLaw K, KX, hb, fun H a ns hl _ hS => ⟨a, ns, rfl, hS, fun _ => rfl⟩, hF⟩
