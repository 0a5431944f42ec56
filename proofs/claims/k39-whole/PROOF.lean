import PyProof.Rows.All
import Wide.All
import OpenK.AllK
import Wide.FinOn
import HandS.ForMost
import HandS.TupAny
import HandS.TupMul
import HandS.TupLen
import HandS.Conv
import HandS.Style
import HandS.IsInst
import HandS.Flt
import KE.KDictKeyed
import KE.KDictZip
import KE.KDictDisplayH
import KE.KDictWalk
import HandS.DictTup
import KE.DataMinMax
import KE.SortData
import KE.GoesMore
import HandS.Exc
import HandS.ExcOwn
import HandS.TryOnly
import HandS.ExcIs
import HandS.Small
import HandS.Deep
import HandS.Zip
import KE.GoesEnum
import HandS.CallSlots
import HandS.WordsExc
import HandS.Flow
import HandS.Ends
import HandS.More
import PySem.Challenge.RW_stillpanes_k39_whole_fewest_moved_beside
set_option Elab.async false
set_option linter.all false
set_option maxRecDepth 100000
/-! Stillpanes, part 1: data that values stand for, and what evaluates to what over slots of data. -/
namespace SP
open PySem L2

/-- what a value stands for -/
inductive D where
  | non | bl (b : Bool) | int (i : Int) | str (x : Str)
  | tup (ds : List D) | lst (ds : List D) | dct (ks : List (List Int × D))
  /-- an address as itself; a dict that is locked -/
  | adr (a : Addr) | lkd (ks : List (List Int × D)) | cls (n : String)

/-- read strictly (b = true), or though it is locked -/
def RdB (b : Bool) (H : Hp) (a : Addr) (u : HO) : Prop := H a = some u ∨ (b = false ∧ ∃ o, H a = some (.frz o u))
theorem RdB.rd {b : Bool} {H : Hp} {a : Addr} {u : HO} (h : RdB b H a u) : Rd H a u := by
  rcases h with h | ⟨_, o, h⟩
  · exact .inl h
  · exact .inr ⟨o, h⟩

mutual
/-- in H the value v stands for d -/
inductive R (b : Bool) (H : Hp) : V → D → Prop
  | non : R b H .non .non
  | bl (c : Bool) : R b H (.bl c) (.bl c)
  | int (i : Int) : R b H (.int i) (.int i)
  | str (x : Str) : R b H (.str x) (.str x)
  | tup {a : Addr} {vs : List V} {ds : List D} : H a = some (.tup vs) → RL b H vs ds → R b H (.ref a) (.tup ds)
  | lst {a : Addr} {vs : List V} {ds : List D} : H a = some (.lst vs) → RL b H vs ds → R b H (.ref a) (.lst ds)
  | dct {a : Addr} {kvs : List (List Key × V)} {ks : List (List Int × D)} : RdB b H a (.dT kvs) → RK b H kvs ks → R b H (.ref a) (.dct ks)
  | adr (a : Addr) : R b H (.ref a) (.adr a)
  | cls (n : String) : R b H (.ty n) (.cls n)
  | lkd {a : Addr} {o : Obj} {kvs : List (List Key × V)} {ks : List (List Int × D)} : H a = some (.frz o (.dT kvs)) → RK b H kvs ks → R b H (.ref a) (.lkd ks)
inductive RL (b : Bool) (H : Hp) : List V → List D → Prop
  | nil : RL b H [] []
  | cons {v : V} {vs : List V} {d : D} {ds : List D} : R b H v d → RL b H vs ds → RL b H (v :: vs) (d :: ds)
inductive RK (b : Bool) (H : Hp) : List (List Key × V) → List (List Int × D) → Prop
  | nil : RK b H [] []
  | cons {k : List Int} {v : V} {kvs : List (List Key × V)} {d : D} {ks : List (List Int × D)} : R b H v d → RK b H kvs ks → RK b H ((k.map Sum.inl, v) :: kvs) ((k, d) :: ks)
end

/-- what may be read in H may be read in H' -/
structure Le (b b' : Bool) (H H' : Hp) : Prop where
  tup : ∀ a vs, H a = some (.tup vs) → H' a = some (.tup vs)
  lst : ∀ a vs, H a = some (.lst vs) → H' a = some (.lst vs)
  dct : ∀ a kvs, RdB b H a (.dT kvs) → RdB b' H' a (.dT kvs)
  frz : ∀ a o kvs, H a = some (.frz o (.dT kvs)) → H' a = some (.frz o (.dT kvs))

theorem Le.refl {b : Bool} (H : Hp) : Le b b H H := ⟨fun _ _ h => h, fun _ _ h => h, fun _ _ h => h, fun _ _ _ h => h⟩
theorem Le.weak {b : Bool} (H : Hp) : Le true b H H where
  tup := fun _ _ h => h
  lst := fun _ _ h => h
  dct := fun _ _ h => by
    rcases h with h | ⟨z, _⟩
    · exact .inl h
    · cases z
  frz := fun _ _ _ h => h
theorem Le.to {b : Bool} (H : Hp) : Le b false H H := ⟨fun _ _ h => h, fun _ _ h => h, fun _ _ h => by
  rcases h with h | ⟨_, z⟩
  · exact .inl h
  · exact .inr ⟨rfl, z⟩, fun _ _ _ h => h⟩
theorem Le.trans {b b' b2 : Bool} {H H1 H2 : Hp} (x : Le b b' H H1) (y : Le b' b2 H1 H2) : Le b b2 H H2 :=
  ⟨fun a vs h => y.tup a vs (x.tup a vs h), fun a vs h => y.lst a vs (x.lst a vs h), fun a k h => y.dct a k (x.dct a k h), fun a o k h => y.frz a o k (x.frz a o k h)⟩
theorem Le.of {b : Bool} {H H' : Hp} (x : Same H H') : Le b b H H' := ⟨fun a _ h => x a _ h, fun a _ h => x a _ h, fun a _ h => by
  rcases h with h | ⟨z, o, h⟩
  · exact .inl (x a _ h)
  · exact .inr ⟨z, o, x a _ h⟩, fun a _ _ h => x a _ h⟩

mutual
theorem R.mono {b b' : Bool} {H H' : Hp} (x : Le b b' H H') : ∀ {v : V} {d : D}, R b H v d → R b' H' v d
  | _, _, .non => .non
  | _, _, .bl b => .bl b
  | _, _, .int i => .int i
  | _, _, .str s => .str s
  | _, _, .tup h l => .tup (x.tup _ _ h) (RL.mono x l)
  | _, _, .lst h l => .lst (x.lst _ _ h) (RL.mono x l)
  | _, _, .dct h l => .dct (x.dct _ _ h) (RK.mono x l)
  | _, _, .adr a => .adr a
  | _, _, .cls n => .cls n
  | _, _, .lkd h l => .lkd (x.frz _ _ _ h) (RK.mono x l)
theorem RL.mono {b b' : Bool} {H H' : Hp} (x : Le b b' H H') : ∀ {vs : List V} {ds : List D}, RL b H vs ds → RL b' H' vs ds
  | _, _, .nil => .nil
  | _, _, .cons h l => .cons (R.mono x h) (RL.mono x l)
theorem RK.mono {b b' : Bool} {H H' : Hp} (x : Le b b' H H') : ∀ {vs : List (List Key × V)} {ds : List (List Int × D)}, RK b H vs ds → RK b' H' vs ds
  | _, _, .nil => .nil
  | _, _, .cons h l => .cons (R.mono x h) (RK.mono x l)
end
theorem R.same {b : Bool} {H H' : Hp} {v : V} {d : D} (x : Same H H') (r : R b H v d) : R b H' v d := r.mono (Le.of x)
theorem RL.same {b : Bool} {H H' : Hp} {v : List V} {d : List D} (x : Same H H') (r : RL b H v d) : RL b H' v d := r.mono (Le.of x)
theorem RK.same {b : Bool} {H H' : Hp} {v : List (List Key × V)} {d : List (List Int × D)} (x : Same H H') (r : RK b H v d) : RK b H' v d := r.mono (Le.of x)

/-- data that nothing changes -/
inductive Imm : D → Prop
  | non : Imm .non
  | bl (b : Bool) : Imm (.bl b)
  | int (i : Int) : Imm (.int i)
  | str (x : Str) : Imm (.str x)
  | tup {ds : List D} : (∀ d ∈ ds, Imm d) → Imm (.tup ds)
  | adr (a : Addr) : Imm (.adr a)
  | cls (n : String) : Imm (.cls n)
def TupLe (H H' : Hp) : Prop := ∀ a vs, H a = some (.tup vs) → H' a = some (.tup vs)
mutual
theorem R.imm {b b' : Bool} {H H' : Hp} (x : TupLe H H') : ∀ {v : V} {d : D}, R b H v d → Imm d → R b' H' v d
  | _, _, .non, _ => .non
  | _, _, .bl b, _ => .bl b
  | _, _, .int i, _ => .int i
  | _, _, .str s, _ => .str s
  | _, _, .tup h l, i => .tup (x _ _ h) (RL.imm x l (by cases i; assumption))
  | _, _, .lst h l, i => nomatch i
  | _, _, .dct h l, i => nomatch i
  | _, _, .adr a, _ => .adr a
  | _, _, .cls n, _ => .cls n
  | _, _, .lkd h l, i => nomatch i
theorem RL.imm {b b' : Bool} {H H' : Hp} (x : TupLe H H') : ∀ {vs : List V} {ds : List D}, RL b H vs ds → (∀ d ∈ ds, Imm d) → RL b' H' vs ds
  | _, _, .nil, _ => .nil
  | _, _, .cons h l, i => .cons (R.imm x h (i _ (List.mem_cons_self ..))) (RL.imm x l (fun d hd => i d (List.mem_cons_of_mem _ hd)))
end

/-! ### inversions -/
section
variable {b : Bool} {H : Hp} {v : V}
theorem R.int_ {i : Int} (r : R b H v (.int i)) : v = .int i := by cases r; rfl
theorem R.bl_ {c : Bool} (r : R b H v (.bl c)) : v = .bl c := by cases r; rfl
theorem R.non_ (r : R b H v .non) : v = .non := by cases r; rfl
theorem R.str_ {x : Str} (r : R b H v (.str x)) : v = .str x := by cases r; rfl
theorem R.tup_ {ds : List D} (r : R b H v (.tup ds)) : ∃ a vs, v = .ref a ∧ H a = some (.tup vs) ∧ RL b H vs ds := by
  cases r with
  | tup h l => exact ⟨_, _, rfl, h, l⟩
theorem R.lst_ {ds : List D} (r : R b H v (.lst ds)) : ∃ a vs, v = .ref a ∧ H a = some (.lst vs) ∧ RL b H vs ds := by
  cases r with
  | lst h l => exact ⟨_, _, rfl, h, l⟩
theorem R.dct_ {ks : List (List Int × D)} (r : R b H v (.dct ks)) : ∃ a kvs, v = .ref a ∧ RdB b H a (.dT kvs) ∧ RK b H kvs ks := by
  cases r with
  | dct h l => exact ⟨_, _, rfl, h, l⟩
theorem R.cls_ {n : String} (r : R b H v (.cls n)) : v = .ty n := by cases r; rfl
theorem R.adr_ {a : Addr} (r : R b H v (.adr a)) : v = .ref a := by cases r; rfl
theorem R.lkd_ {ks : List (List Int × D)} (r : R b H v (.lkd ks)) : ∃ a o kvs, v = .ref a ∧ H a = some (.frz o (.dT kvs)) ∧ RK b H kvs ks := by
  cases r with
  | lkd h l => exact ⟨_, _, _, rfl, h, l⟩
theorem RL.len : ∀ {vs : List V} {ds : List D}, RL b H vs ds → vs.length = ds.length
  | _, _, .nil => rfl
  | _, _, .cons _ l => congrArg (· + 1) l.len
theorem RL.get : ∀ {vs : List V} {ds : List D} {i : Nat} {d : D}, RL b H vs ds → ds[i]? = some d → ∃ v, vs[i]? = some v ∧ R b H v d
  | _, _, _, _, .nil, e => by simp at e
  | _, _, 0, _, .cons r _, e => by
    simp at e
    subst e
    exact ⟨_, rfl, r⟩
  | _, _, i + 1, d, .cons _ l, e => by
    obtain ⟨v, h1, h2⟩ := RL.get (i := i) l (by simpa using e)
    exact ⟨v, by simpa using h1, h2⟩
theorem RL.get' : ∀ {vs : List V} {ds : List D} {i : Nat} {v : V}, RL b H vs ds → vs[i]? = some v → ∃ d, ds[i]? = some d ∧ R b H v d
  | _, _, _, _, .nil, e => by simp at e
  | _, _, 0, _, .cons r _, e => by
    simp at e
    subst e
    exact ⟨_, rfl, r⟩
  | _, _, i + 1, d, .cons _ l, e => by
    obtain ⟨v, h1, h2⟩ := RL.get' (i := i) l (by simpa using e)
    exact ⟨v, by simpa using h1, h2⟩
theorem RL.append : ∀ {vs ws : List V} {ds es : List D}, RL b H vs ds → RL b H ws es → RL b H (vs ++ ws) (ds ++ es)
  | _, _, _, _, .nil, r => r
  | _, _, _, _, .cons h l, r => .cons h (l.append r)
theorem RL.one {v : V} {d : D} (r : R b H v d) : RL b H [v] [d] := .cons r .nil
theorem RL.take : ∀ {vs : List V} {ds : List D} (n : Nat), RL b H vs ds → RL b H (vs.take n) (ds.take n)
  | _, _, 0, _ => .nil
  | _, _, _ + 1, .nil => .nil
  | _, _, n + 1, .cons h l => .cons h (l.take n)
theorem RL.drop : ∀ {vs : List V} {ds : List D} (n : Nat), RL b H vs ds → RL b H (vs.drop n) (ds.drop n)
  | _, _, 0, r => r
  | _, _, _ + 1, .nil => .nil
  | _, _, n + 1, .cons _ l => l.drop n
theorem RL.rev : ∀ {vs : List V} {ds : List D}, RL b H vs ds → RL b H vs.reverse ds.reverse
  | _, _, .nil => .nil
  | _, _, .cons h l => by
    rw [List.reverse_cons, List.reverse_cons]
    exact l.rev.append (.one h)
theorem RL.set : ∀ {vs : List V} {ds : List D} (i : Nat) {v : V} {d : D}, RL b H vs ds → R b H v d → RL b H (vs.set i v) (ds.set i d)
  | _, _, _, _, _, .nil, _ => .nil
  | _, _, 0, _, _, .cons _ l, r => .cons r l
  | _, _, i + 1, _, _, .cons h l, r => .cons h (l.set i r)
theorem RL.rep {v : V} {d : D} (r : R b H v d) : ∀ n : Nat, RL b H (List.replicate n v) (List.replicate n d)
  | 0 => .nil
  | n + 1 => .cons r (RL.rep r n)
theorem RL.flat {vs : List V} {ds : List D} (r : RL b H vs ds) : ∀ n : Nat, RL b H (List.replicate n vs).flatten (List.replicate n ds).flatten
  | 0 => .nil
  | n + 1 => by
    rw [List.replicate_succ, List.replicate_succ, List.flatten_cons, List.flatten_cons]
    exact r.append (RL.flat r n)
theorem RL.ints : ∀ {vs : List V} {ns : List Int}, RL b H vs (ns.map .int) → vs = ns.map V.int
  | _, [], .nil => rfl
  | _, n :: ns, .cons h l => by rw [h.int_, l.ints]; rfl
theorem RL.of_ints : ∀ (ns : List Int), RL b H (ns.map V.int) (ns.map .int)
  | [] => .nil
  | n :: ns => .cons (.int n) (RL.of_ints ns)
theorem RL.bls : ∀ {vs : List V} {ns : List Bool}, RL b H vs (ns.map .bl) → vs = ns.map V.bl
  | _, [], .nil => rfl
  | _, n :: ns, .cons h l => by rw [h.bl_, l.bls]; rfl
end

/-! ### heaps -/
/-- exactly there, in a greater one -/
abbrev Sub (G H : Hp) : Prop := Same G H
/-- G, and what H2 has beyond H (and all tuples) -/
def ext (G H H2 : Hp) : Hp := fun a => match H2 a with
  | some (.tup vs) => some (.tup vs)
  | o => if (H a).isNone then o else G a
def hid (A : List Addr) (H : Hp) : Hp := fun a => if a ∈ A then none else H a
def new (H H2 : Hp) : Hp := ext (fun _ => none) H H2
section
variable {G H H1 H2 : Hp} {a : Addr}
theorem ext_tup {vs : List V} (h : H2 a = some (.tup vs)) : ext G H H2 a = some (.tup vs) := by
  unfold ext; rw [h]
theorem ext_new {o : HO} (h : H a = none) (h2 : H2 a = some o) : ext G H H2 a = some o := by
  unfold ext; rw [h2, h]
  cases o <;> rfl
theorem ext_cases {o : HO} (h : ext G H H2 a = some o) : ((∃ vs, o = .tup vs) ∧ H2 a = some o) ∨ (H a = none ∧ H2 a = some o) ∨ (H a ≠ none ∧ G a = some o) := by
  unfold ext at h
  cases e : H a with
  | none =>
    rw [e] at h
    cases e2 : H2 a with
    | none => rw [e2] at h; simp at h
    | some u =>
      rw [e2] at h
      have q : u = o := by
        cases u <;> simpa using h
      exact .inr (.inl ⟨rfl, by rw [q]⟩)
  | some w =>
    rw [e] at h
    cases e2 : H2 a with
    | none => rw [e2] at h; exact .inr (.inr ⟨by simp, by simpa using h⟩)
    | some u =>
      rw [e2] at h
      cases u with
      | tup vs =>
        have q : HO.tup vs = o := by simpa using h
        exact .inl ⟨⟨vs, q.symm⟩, by rw [q]⟩
      | _ => exact .inr (.inr ⟨by simp, by simpa using h⟩)
theorem ext_sub (s : Sub G H) (e : Same H H2) : Sub (ext G H H2) H2 := fun a o h => by
  rcases ext_cases h with ⟨_, h⟩ | ⟨_, h⟩ | ⟨_, h⟩
  · exact h
  · exact h
  · exact e _ _ (s _ _ h)
theorem ext_ge (s : Sub G H) (e : Same H H2) : Sub G (ext G H H2) := fun a o h => by
  have h1 := s _ _ h
  have h2 := e _ _ h1
  unfold ext
  rw [h2, h1]
  cases o with
  | tup vs => rfl
  | _ => exact h
theorem ext_ext (s : Sub G H) (e : Same H H1) (e2 : Same H1 H2) : Sub (ext (ext G H H1) H1 H2) (ext G H H2) := fun a o h => by
  rcases ext_cases h with ⟨⟨vs, rfl⟩, h⟩ | ⟨h1, h⟩ | ⟨n, h⟩
  · exact ext_tup h
  · have h0 : H a = none := Same.free e h1
    exact ext_new h0 h
  · rcases ext_cases h with ⟨⟨vs, rfl⟩, h⟩ | ⟨h1, h⟩ | ⟨n, h⟩
    · exact ext_tup (e2 _ _ h)
    · exact ext_new h1 (e2 _ _ h)
    · exact ext_ge s (e.trans e2) _ _ h
theorem ext_refl (s : Sub G H) : Sub (ext G H H) H := ext_sub s (Same.refl H)
theorem new_ext : Sub (new H H2) (ext G H H2) := fun a o h => by
  rcases ext_cases h with ⟨⟨vs, rfl⟩, h⟩ | ⟨h1, h⟩ | ⟨n, h⟩
  · exact ext_tup h
  · exact ext_new h1 h
  · cases h
theorem new_back (e : Same H H1) : Sub (new H1 H2) (new H H2) := fun a o h => by
  rcases ext_cases h with ⟨⟨vs, rfl⟩, h⟩ | ⟨h1, h⟩ | ⟨n, h⟩
  · exact ext_tup h
  · exact ext_new (Same.free e h1) h
  · cases h
theorem new_sub : Sub (new H H2) H2 := fun a o h => by
  rcases ext_cases h with ⟨_, h⟩ | ⟨_, h⟩ | ⟨n, h⟩
  · exact h
  · exact h
  · cases h
theorem same_ext (e : Same H H2) : Sub H2 (ext H H H2) := fun a o h => by
  cases q : H a with
  | none => exact ext_new q h
  | some u =>
    have h2 := e _ _ q
    rw [h] at h2
    cases h2
    exact ext_ge (Same.refl H) e _ _ q
theorem same_upd {p : Addr} {o : HO} (h : H p = none) : Same H (upd H p o) := fun b x e => by
  rw [upd_ne (ne_of_none e h)]
  exact e
theorem hid_sub {A : List Addr} : Sub (hid A H) H := fun a o h => by
  unfold hid at h
  by_cases q : a ∈ A
  · rw [if_pos q] at h; cases h
  · rw [if_neg q] at h; exact h
theorem hid_upd {A : List Addr} {o : HO} (h : a ∈ A) : hid A (upd H a o) = hid A H := by
  funext c
  unfold hid
  by_cases q : c ∈ A
  · rw [if_pos q, if_pos q]
  · rw [if_neg q, if_neg q, upd_ne (fun z => q (by rw [z]; exact h))]
theorem hid_in {A : List Addr} (h : a ∈ A) : hid A H a = none := by
  unfold hid; rw [if_pos h]
theorem hid_out {A : List Addr} (h : a ∉ A) : hid A H a = H a := by
  unfold hid; rw [if_neg h]
theorem hid_same {A : List Addr} (e : Same H H2) : Same (hid A H) (hid A H2) := fun a o h => by
  by_cases q : a ∈ A
  · rw [hid_in q] at h; cases h
  · rw [hid_out q] at h ⊢; exact e _ _ h
end
end SP
set_option Elab.async false
set_option linter.all false
set_option maxRecDepth 100000
/-! Stillpanes, part 2: slots of data; what an expression evaluates to over them. -/
namespace SP
open PySem L2

abbrev Ds := List (Option D)
/-- the slots σ hold the data ps (none: anything) -/
def SL (b : Bool) (H : Hp) (σ : L2.St) (ps : Ds) : Prop := σ.length = ps.length ∧ ∀ (i : Nat) (d : D), ps[i]? = some (some d) → ∃ v, σ[i]? = some (some v) ∧ R b H v d
section
variable {b b' : Bool} {H H' : Hp} {σ : L2.St} {ps : Ds}
theorem SL.mono (x : Le b b' H H') (s : SL b H σ ps) : SL b' H' σ ps := ⟨s.1, fun i d e => let ⟨v, e1, r⟩ := s.2 i d e; ⟨v, e1, r.mono x⟩⟩
theorem SL.same (x : Same H H') (s : SL b H σ ps) : SL b H' σ ps := s.mono (Le.of x)
theorem SL.set (s : SL b H σ ps) {v : V} {d : D} (i : Nat) (r : R b H v d) : SL b H (σ.set i (some v)) (ps.set i (some d)) := by
  refine ⟨by rw [List.length_set, List.length_set]; exact s.1, fun j e h => ?_⟩
  by_cases q : i = j
  · subst q
    have hl : i < ps.length := by
      have := (List.getElem?_eq_some_iff.mp h).1
      rw [List.length_set] at this
      exact this
    rw [List.getElem?_set_self hl] at h
    cases h
    exact ⟨v, by rw [List.getElem?_set_self (by rw [s.1]; exact hl)], r⟩
  · rw [List.getElem?_set_ne q] at h
    obtain ⟨w, e1, r1⟩ := s.2 j e h
    exact ⟨w, by rw [List.getElem?_set_ne q]; exact e1, r1⟩
theorem SL.drop (s : SL b H σ ps) (i : Nat) (x : Option V) : SL b H (σ.set i x) (ps.set i none) := by
  refine ⟨by rw [List.length_set, List.length_set]; exact s.1, fun j e h => ?_⟩
  by_cases q : i = j
  · subst q
    have hl : i < ps.length := by
      have := (List.getElem?_eq_some_iff.mp h).1
      rw [List.length_set] at this
      exact this
    rw [List.getElem?_set_self hl] at h
    cases h
  · rw [List.getElem?_set_ne q] at h
    obtain ⟨w, e1, r1⟩ := s.2 j e h
    exact ⟨w, by rw [List.getElem?_set_ne q]; exact e1, r1⟩
/-- fewer data are known -/
theorem SL.less (s : SL b H σ ps) {qs : Ds} (hl : qs.length = ps.length) (h : ∀ (i : Nat) (d : D), qs[i]? = some (some d) → ps[i]? = some (some d)) : SL b H σ qs :=
  ⟨by rw [hl]; exact s.1, fun i d e => s.2 i d (h i d e)⟩
def wipeP (ps : Ds) : List Nat → Ds
  | [] => ps
  | v :: vs => (wipeP ps vs).set v none
theorem SL.wipe (s : SL b H σ ps) : ∀ vs : List Nat, SL b H (wipe σ vs) (wipeP ps vs)
  | [] => s
  | v :: vs => by
    unfold L2.wipe wipeP
    exact (SL.wipe s vs).drop v none
theorem SL.cons {v : V} {d : D} (r : R b H v d) (s : SL b H σ ps) : SL b H (some v :: σ) (some d :: ps) := by
  refine ⟨by rw [List.length_cons, List.length_cons, s.1], fun i e h => ?_⟩
  cases i with
  | zero =>
    simp at h
    subst h
    exact ⟨v, by simp, r⟩
  | succ i =>
    obtain ⟨w, e1, r1⟩ := s.2 i e (by simpa using h)
    exact ⟨w, by simpa using e1, r1⟩
theorem SL.none {x : Option V} (s : SL b H σ ps) : SL b H (x :: σ) (Option.none :: ps) := by
  refine ⟨by rw [List.length_cons, List.length_cons, s.1], fun i e h => ?_⟩
  cases i with
  | zero => simp at h
  | succ i =>
    obtain ⟨w, e1, r1⟩ := s.2 i e (by simpa using h)
    exact ⟨w, by simpa using e1, r1⟩
theorem SL.nil : SL b H [] [] := ⟨rfl, fun i d h => by simp at h⟩
theorem SL.start {N : List Str} {vs : List V} {ds : List D} (r : RL b H vs ds) : SL b H (start N vs) (ds.map some ++ List.replicate (N.length - ds.length) Option.none) := by
  unfold L2.start
  rw [r.len]
  generalize N.length - ds.length = n
  clear N
  induction r using RL.rec (motive_1 := fun _ _ _ => True) (motive_3 := fun _ _ _ => True) with
  | nil =>
    show SL b H (List.replicate n _) (List.replicate n _)
    induction n with
    | zero => exact SL.nil
    | succ n ih => exact SL.none ih
  | @cons v vs d ds r l _ ih => exact SL.cons r ih
  | _ => trivial
end
theorem wipe_set {σ : L2.St} {j : Nat} {x : Option V} : ∀ {vs : List Nat}, j ∈ vs → wipe (σ.set j x) vs = wipe σ vs
  | [], h => nomatch h
  | v :: vs, h => by
    unfold wipe
    by_cases q : j ∈ vs
    · rw [wipe_set q]
    · have e : j = v := by
        rcases List.mem_cons.mp h with h | h
        · exact h
        · exact absurd h q
      subst e
      have : ∀ ws : List Nat, j ∉ ws → wipe (σ.set j x) ws = (wipe σ ws).set j x := by
        intro ws
        induction ws with
        | nil => intro _; rfl
        | cons w ws ih =>
          intro hn
          have hw : j ≠ w := fun z => hn (by rw [z]; exact List.mem_cons_self ..)
          have hn' : j ∉ ws := fun z => hn (List.mem_cons_of_mem _ z)
          unfold wipe
          rw [ih hn', List.set_comm _ _ hw]
      rw [this vs q, List.set_set]
theorem wipe_wipe (σ : L2.St) : ∀ vs ws : List Nat, (∀ v ∈ vs, v ∈ ws) → wipe (wipe σ vs) ws = wipe σ ws
  | [], _, _ => rfl
  | v :: vs, ws, h => by
    show wipe ((wipe σ vs).set v none) ws = _
    rw [wipe_set (h v (List.mem_cons_self ..)), wipe_wipe σ vs ws fun u hu => h u (List.mem_cons_of_mem _ hu)]

/-! ### what evaluates to what: G is the part of the heap in which the slots' data live -/
def EvP (b : Bool) (ps : Ds) (te : TE) (d : D) : Prop := ∀ (σ : L2.St) (H G : Hp), Sub G H → SL b G σ ps → ∀ Q : VK, (∀ v H2, Same H H2 → R b (ext G H H2) v d → Q v H2) → te σ H Q
def EtP (b : Bool) (ps : Ds) (tt : TT) (c : Bool) : Prop := ∀ (σ : L2.St) (H G : Hp), Sub G H → SL b G σ ps → ∀ Q : Bool → Hp → Prop, (∀ H2, Same H H2 → Q c H2) → tt σ H Q
def EaP (b : Bool) (ps : Ds) (ta : TA) (ds : List D) : Prop := ∀ (σ : L2.St) (H G : Hp), Sub G H → SL b G σ ps → ∀ Q : List V → Hp → Prop, (∀ vs H2, Same H H2 → RL b (ext G H H2) vs ds → Q vs H2) → ta σ H Q
def EoP (b : Bool) (ps : Ds) (to : TO) (o : Option Int) : Prop := ∀ (σ : L2.St) (H G : Hp), Sub G H → SL b G σ ps → ∀ Q : Option Int → Hp → Prop, (∀ H2, Same H H2 → Q o H2) → to σ H Q

section
variable {b : Bool} {ps : Ds} {ta tb te tc : TE} {tt tu : TT} {d e : D} {i j : Int} {K : PySem.W.Frag} {x y : V}
theorem EvP.is (h : EvP b ps te d) (q : d = e) : EvP b ps te e := q ▸ h
theorem EtP.is {c c' : Bool} (h : EtP b ps tt c) (q : c = c') : EtP b ps tt c' := q ▸ h
theorem ev_var {n : Nat} (h : ps[n]? = some (some d)) : EvP b ps (tVar n) d := fun σ H G sub s Q q =>
  let ⟨v, e, r⟩ := s.2 n d h; ⟨v, e, q v H (Same.refl H) (r.same (ext_ge sub (Same.refl H)))⟩
theorem ev_int : EvP b ps (tC (.int i)) (.int i) := fun σ H G sub s Q q => q _ H (Same.refl H) (.int i)
theorem ev_bl {c : Bool} : EvP b ps (tC (.bl c)) (.bl c) := fun σ H G sub s Q q => q _ H (Same.refl H) (.bl c)
theorem ev_non : EvP b ps (tC .non) .non := fun σ H G sub s Q q => q _ H (Same.refl H) .non
theorem ev_str {z : Str} : EvP b ps (tC (.str z)) (.str z) := fun σ H G sub s Q q => q _ H (Same.refl H) (.str z)
/-- two operands, then an operation on the values -/
theorem ev_two {r : R2} {z : D} (ha : EvP b ps ta d) (hb : EvP b ps tb e) (hr : ∀ x y H G, Sub G H → R b G x d → R b G y e → ∀ Q : VK, (∀ v H2, Same H H2 → R b (ext G H H2) v z → Q v H2) → r x y H Q) : EvP b ps (tOp r ta tb) z :=
  fun σ H G sub s Q q => ha σ H G sub s _ fun x H1 e1 r1 => hb σ H1 (ext G H H1) (ext_sub sub e1) (s.same (ext_ge sub e1)) _ fun y H2 e2 r2 => by
    refine hr x y H2 (ext G H H2) (ext_sub sub (e1.trans e2)) (r1.same fun a o h => ?_) (r2.same (ext_ext sub e1 e2)) Q fun v H3 e3 r3 => ?_
    · exact ext_ext sub e1 e2 _ _ (ext_ge (ext_sub sub e1) e2 _ _ h)
    · exact q v H3 ((e1.trans e2).trans e3) (r3.same (ext_ext sub (e1.trans e2) e3))
theorem ev_one {r : V → Hp → VK → Prop} {z : D} (ha : EvP b ps ta d) (hr : ∀ x H G, Sub G H → R b G x d → ∀ Q : VK, (∀ v H2, Same H H2 → R b (ext G H H2) v z → Q v H2) → r x H Q) : EvP b ps (fun σ H Q => ta σ H fun x H1 => r x H1 Q) z :=
  fun σ H G sub s Q q => ha σ H G sub s _ fun x H1 e1 r1 => hr x H1 (ext G H H1) (ext_sub sub e1) r1 Q fun v H3 e3 r3 => q v H3 (e1.trans e3) (r3.same (ext_ext sub e1 e3))
/-! ints -/
theorem ev_I0 {g : Int → Int → V} {z : D} (hz : ∀ H, R b H (g i j) z) (ha : EvP b ps ta (.int i)) (hb : EvP b ps tb (.int j)) : EvP b ps (tOp (rI0 g) ta tb) z :=
  ev_two ha hb fun x y H G sub r1 r2 Q q => ⟨i, j, r1.int_, r2.int_, q _ H (Same.refl H) (hz _)⟩
theorem ev_I {C : Int → Int → Prop} {g : Int → Int → V} {z : D} (hz : ∀ H, R b H (g i j) z) (ha : EvP b ps ta (.int i)) (hb : EvP b ps tb (.int j)) (hc : C i j) : EvP b ps (tOp (rI C g) ta tb) z :=
  ev_two ha hb fun x y H G sub r1 r2 Q q => ⟨i, j, r1.int_, r2.int_, hc, q _ H (Same.refl H) (hz _)⟩
theorem ev_add (ha : EvP b ps ta (.int i)) (hb : EvP b ps tb (.int j)) : EvP b ps (tOp (rI0 fun i j => .int (i + j)) ta tb) (.int (i + j)) := ev_I0 (fun H => .int _) ha hb
theorem ev_sub (ha : EvP b ps ta (.int i)) (hb : EvP b ps tb (.int j)) : EvP b ps (tOp (rI0 fun i j => .int (i - j)) ta tb) (.int (i - j)) := ev_I0 (fun H => .int _) ha hb
theorem ev_mul (ha : EvP b ps ta (.int i)) (hb : EvP b ps tb (.int j)) (hc : CMul i j) : EvP b ps (tOp (rI CMul fun i j => .int (i * j)) ta tb) (.int (i * j)) := ev_I (fun H => .int _) ha hb hc
theorem ev_fdiv (ha : EvP b ps ta (.int i)) (hb : EvP b ps tb (.int j)) (hc : CDiv i j) : EvP b ps (tOp (rI CDiv fun i j => .int (i / j)) ta tb) (.int (i / j)) := ev_I (fun H => .int _) ha hb hc
theorem ev_mod (ha : EvP b ps ta (.int i)) (hb : EvP b ps tb (.int j)) (hc : 0 < j) : EvP b ps (tOp (rI (fun _ j => 0 < j) fun i j => .int (i % j)) ta tb) (.int (i % j)) := ev_I (fun H => .int _) ha hb hc
theorem ev_lt (ha : EvP b ps ta (.int i)) (hb : EvP b ps tb (.int j)) : EvP b ps (tOp (rI0 fun i j => .bl (decide (i < j))) ta tb) (.bl (decide (i < j))) := ev_I0 (fun H => .bl _) ha hb
theorem ev_le (ha : EvP b ps ta (.int i)) (hb : EvP b ps tb (.int j)) : EvP b ps (tOp (rI0 fun i j => .bl (decide (i ≤ j))) ta tb) (.bl (decide (i ≤ j))) := ev_I0 (fun H => .bl _) ha hb
theorem ev_gt (ha : EvP b ps ta (.int i)) (hb : EvP b ps tb (.int j)) : EvP b ps (tOp (rI0 fun i j => .bl (decide (j < i))) ta tb) (.bl (decide (j < i))) := ev_I0 (fun H => .bl _) ha hb
theorem ev_ge (ha : EvP b ps ta (.int i)) (hb : EvP b ps tb (.int j)) : EvP b ps (tOp (rI0 fun i j => .bl (decide (j ≤ i))) ta tb) (.bl (decide (j ≤ i))) := ev_I0 (fun H => .bl _) ha hb
theorem ev_neg (ha : EvP b ps ta (.int i)) : EvP b ps (tUn (rU fun i => .int (-i)) ta) (.int (-i)) :=
  ev_one (r := rU fun i => .int (-i)) ha fun x H G sub r1 Q q => ⟨i, r1.int_, q _ H (Same.refl H) (.int _)⟩
/-! == of scalars -/
theorem ev_eqI (ha : EvP b ps ta (.int i)) (hb : EvP b ps tb (.int j)) : EvP b ps (tOp rEq ta tb) (.bl (decide (i = j))) :=
  ev_two ha hb fun x y H G sub r1 r2 Q q => by
    rw [r1.int_, r2.int_]
    refine ⟨rfl, ?_⟩
    have e : decide (V.int i = V.int j) = decide (i = j) := by
      by_cases h : i = j
      · subst h; rw [decide_eq_true rfl, decide_eq_true rfl]
      · rw [decide_eq_false h, decide_eq_false (fun z => h (V.int.inj z))]
    rw [e]
    exact q _ H (Same.refl H) (.bl _)
theorem ev_neI (ha : EvP b ps ta (.int i)) (hb : EvP b ps tb (.int j)) : EvP b ps (tOp rNe ta tb) (.bl (!decide (i = j))) :=
  ev_two ha hb fun x y H G sub r1 r2 Q q => by
    rw [r1.int_, r2.int_]
    refine ⟨rfl, ?_⟩
    have e : decide (V.int i = V.int j) = decide (i = j) := by
      by_cases h : i = j
      · subst h; rw [decide_eq_true rfl, decide_eq_true rfl]
      · rw [decide_eq_false h, decide_eq_false (fun z => h (V.int.inj z))]
    rw [e]
    exact q _ H (Same.refl H) (.bl _)
theorem ev_eqB {c k : Bool} (ha : EvP b ps ta (.bl c)) (hb : EvP b ps tb (.bl k)) : EvP b ps (tOp rEq ta tb) (.bl (decide (c = k))) :=
  ev_two ha hb fun x y H G sub r1 r2 Q q => by
    rw [r1.bl_, r2.bl_]
    refine ⟨rfl, ?_⟩
    have e : decide (V.bl c = V.bl k) = decide (c = k) := by
      cases c <;> cases k <;> decide
    rw [e]
    exact q _ H (Same.refl H) (.bl _)
theorem ev_neB {c k : Bool} (ha : EvP b ps ta (.bl c)) (hb : EvP b ps tb (.bl k)) : EvP b ps (tOp rNe ta tb) (.bl (!decide (c = k))) :=
  ev_two ha hb fun x y H G sub r1 r2 Q q => by
    rw [r1.bl_, r2.bl_]
    refine ⟨rfl, ?_⟩
    have e : decide (V.bl c = V.bl k) = decide (c = k) := by
      cases c <;> cases k <;> decide
    rw [e]
    exact q _ H (Same.refl H) (.bl _)
theorem ev_eqS {c k : Str} (ha : EvP b ps ta (.str c)) (hb : EvP b ps tb (.str k)) : EvP b ps (tOp rEq ta tb) (.bl (decide (c = k))) :=
  ev_two ha hb fun x y H G sub r1 r2 Q q => by
    rw [r1.str_, r2.str_]
    refine ⟨rfl, ?_⟩
    have e : decide (V.str c = V.str k) = decide (c = k) := by
      by_cases h : c = k
      · subst h; rw [decide_eq_true rfl, decide_eq_true rfl]
      · rw [decide_eq_false h, decide_eq_false (fun z => h (V.str.inj z))]
    rw [e]
    exact q _ H (Same.refl H) (.bl _)
theorem ev_eqNN (ha : EvP b ps ta .non) (hb : EvP b ps tb .non) : EvP b ps (tOp rEq ta tb) (.bl true) :=
  ev_two ha hb fun x y H G sub r1 r2 Q q => by
    rw [r1.non_, r2.non_]
    exact ⟨rfl, q _ H (Same.refl H) (.bl _)⟩
theorem ev_eqNI (ha : EvP b ps ta .non) (hb : EvP b ps tb (.int j)) : EvP b ps (tOp rEq ta tb) (.bl false) :=
  ev_two ha hb fun x y H G sub r1 r2 Q q => by
    rw [r1.non_, r2.int_]
    exact ⟨rfl, q _ H (Same.refl H) (.bl _)⟩
/-- what of a datum is None -/
def D.isN : D → Bool
  | .non => true
  | _ => false
theorem R.isN {b : Bool} {H : Hp} {v : V} {d : D} (r : R b H v d) : decide (v = .non) = d.isN := by
  cases r <;> rfl
theorem ev_isN (ha : EvP b ps ta d) : EvP b ps (tOp (fun x y H Q => y = .non ∧ Q (.bl (decide (x = .non))) H) ta (tC .non)) (.bl d.isN) :=
  ev_two ha ev_non fun x y H G sub r1 r2 Q q => ⟨r2.non_, by rw [r1.isN]; exact q _ H (Same.refl H) (.bl _)⟩
theorem ev_notN (ha : EvP b ps ta d) : EvP b ps (tOp (fun x y H Q => y = .non ∧ Q (.bl (!decide (x = .non))) H) ta (tC .non)) (.bl (!d.isN)) :=
  ev_two ha ev_non fun x y H G sub r1 r2 Q q => ⟨r2.non_, by rw [r1.isN]; exact q _ H (Same.refl H) (.bl _)⟩
/-! bools, tests -/
theorem et_test {c : Bool} (h : EvP b ps te (.bl c)) : EtP b ps (tTest te) c := fun σ H G sub s Q q => h σ H G sub s _ fun v H2 e2 r => ⟨c, r.bl_, q H2 e2⟩
theorem et_B {c : Bool} (h : EvP b ps te (.bl c)) : EtP b ps (tB te) c := fun σ H G sub s Q q => h σ H G sub s _ fun v H2 e2 r => ⟨c, r.bl_, q H2 e2⟩
theorem et_and {c k : Bool} (h1 : EtP b ps tt c) (h2 : c = true → EtP b ps tu k) : EtP b ps (tAnd tt tu) (c && k) := fun σ H G sub s Q q => h1 σ H G sub s _ fun H2 e2 => by
  cases c with
  | true => exact h2 rfl σ H2 (ext G H H2) (ext_sub sub e2) (s.same (ext_ge sub e2)) Q fun H3 e3 => q H3 (e2.trans e3)
  | false => exact q H2 e2
theorem et_or {c k : Bool} (h1 : EtP b ps tt c) (h2 : c = false → EtP b ps tu k) : EtP b ps (tOr tt tu) (c || k) := fun σ H G sub s Q q => h1 σ H G sub s _ fun H2 e2 => by
  cases c with
  | true => exact q H2 e2
  | false => exact h2 rfl σ H2 (ext G H H2) (ext_sub sub e2) (s.same (ext_ge sub e2)) Q fun H3 e3 => q H3 (e2.trans e3)
theorem et_not {c : Bool} (h1 : EtP b ps tt c) : EtP b ps (tNot tt) (!c) := fun σ H G sub s Q q => h1 σ H G sub s _ fun H2 e2 => q H2 e2
theorem et_yes : EtP b ps tYes true := fun σ H G sub s Q q => q H (Same.refl H)
theorem ev_andV {c k : Bool} (h1 : EvP b ps ta (.bl c)) (h2 : c = true → EvP b ps tb (.bl k)) : EvP b ps (tAndV ta tb) (.bl (c && k)) := fun σ H G sub s Q q => h1 σ H G sub s _ fun v H2 e2 r => ⟨c, r.bl_, by
  cases c with
  | true => exact h2 rfl σ H2 (ext G H H2) (ext_sub sub e2) (s.same (ext_ge sub e2)) Q fun w H3 e3 r3 => q w H3 (e2.trans e3) (r3.same (ext_ext sub e2 e3))
  | false => exact q _ H2 e2 (.bl _)⟩
theorem ev_orV {c k : Bool} (h1 : EvP b ps ta (.bl c)) (h2 : c = false → EvP b ps tb (.bl k)) : EvP b ps (tOrV ta tb) (.bl (c || k)) := fun σ H G sub s Q q => h1 σ H G sub s _ fun v H2 e2 r => ⟨c, r.bl_, by
  cases c with
  | true => exact q _ H2 e2 (.bl _)
  | false => exact h2 rfl σ H2 (ext G H H2) (ext_sub sub e2) (s.same (ext_ge sub e2)) Q fun w H3 e3 r3 => q w H3 (e2.trans e3) (r3.same (ext_ext sub e2 e3))⟩
theorem ev_notV {c : Bool} (h1 : EvP b ps ta (.bl c)) : EvP b ps (tNotV ta) (.bl (!c)) := fun σ H G sub s Q q => h1 σ H G sub s _ fun v H2 e2 r => ⟨c, r.bl_, q _ H2 e2 (.bl _)⟩
theorem ev_if {c : Bool} {z : D} (h : EtP b ps tt c) (h1 : c = true → EvP b ps ta z) (h2 : c = false → EvP b ps tb z) : EvP b ps (tIf tt ta tb) z := fun σ H G sub s Q q => h σ H G sub s _ fun H2 e2 => by
  cases c with
  | true => exact h1 rfl σ H2 (ext G H H2) (ext_sub sub e2) (s.same (ext_ge sub e2)) Q fun w H3 e3 r3 => q w H3 (e2.trans e3) (r3.same (ext_ext sub e2 e3))
  | false => exact h2 rfl σ H2 (ext G H H2) (ext_sub sub e2) (s.same (ext_ge sub e2)) Q fun w H3 e3 r3 => q w H3 (e2.trans e3) (r3.same (ext_ext sub e2 e3))
/-! arguments, displays -/
theorem ea_nil : EaP b ps tNil [] := fun σ H G sub s Q q => q [] H (Same.refl H) .nil
theorem ea_cons {tr : TA} {ds : List D} (h : EvP b ps ta d) (hr : EaP b ps tr ds) : EaP b ps (tCons ta tr) (d :: ds) := fun σ H G sub s Q q =>
  h σ H G sub s _ fun v H1 e1 r1 => hr σ H1 (ext G H H1) (ext_sub sub e1) (s.same (ext_ge sub e1)) _ fun vs H2 e2 r2 =>
    q (v :: vs) H2 (e1.trans e2) (.cons (r1.same fun a o h => ext_ext sub e1 e2 _ _ (ext_ge (ext_sub sub e1) e2 _ _ h)) (r2.same (ext_ext sub e1 e2)))
theorem ev_args {t : TA} {ds : List D} {z : D} {k : List V → Hp → VK → Prop} (h : EaP b ps t ds) (hk : ∀ vs H G, Sub G H → RL b G vs ds → ∀ Q : VK, (∀ v H2, Same H H2 → R b (ext G H H2) v z → Q v H2) → k vs H Q) : EvP b ps (fun σ H Q => t σ H fun vs H1 => k vs H1 Q) z :=
  fun σ H G sub s Q q => h σ H G sub s _ fun vs H1 e1 r1 => hk vs H1 (ext G H H1) (ext_sub sub e1) r1 Q fun v H2 e2 r2 => q v H2 (e1.trans e2) (r2.same (ext_ext sub e1 e2))
theorem sz_of {n : Nat} (h : n ≤ 100000) : n ≤ sizeLine := Nat.le_trans h (by decide)
theorem sz_lt {n : Nat} (h : n < 100000) : n < sizeLine := Nat.lt_of_lt_of_le h (by decide)
/-- a new tuple, a new list -/
theorem r_newT {H G : Hp} {p : Addr} {vs : List V} {ds : List D} (sub : Sub G H) (hp : H p = none) (r : RL b G vs ds) : R b (ext G H (upd H p (.tup vs))) (.ref p) (.tup ds) :=
  .tup (ext_tup upd_same) (r.same (ext_ge sub (same_upd hp)))
theorem r_newL {H G : Hp} {p : Addr} {vs : List V} {ds : List D} (sub : Sub G H) (hp : H p = none) (r : RL b G vs ds) : R b (ext G H (upd H p (.lst vs))) (.ref p) (.lst ds) :=
  .lst (ext_new hp upd_same) (r.same (ext_ge sub (same_upd hp)))
theorem ev_tup {t : TA} {ds : List D} (h : EaP b ps t ds) (hl : ds.length ≤ 100000) : EvP b ps (tTup t) (.tup ds) :=
  ev_args h fun vs H G sub r Q q => ⟨sz_of (by rw [r.len]; exact hl), fun p hp => q _ _ (same_upd hp) (r_newT sub hp r)⟩
theorem ev_lst {t : TA} {ds : List D} (h : EaP b ps t ds) (hl : ds.length ≤ 100000) : EvP b ps (tLst t) (.lst ds) :=
  ev_args h fun vs H G sub r Q q => ⟨sz_of (by rw [r.len]; exact hl), fun p hp => q _ _ (same_upd hp) (r_newL sub hp r)⟩
/-! items -/
theorem ixN_nat {n j : Nat} (hj : j < n) : ixN n (j : Int) = some j := by
  unfold ixN
  rw [if_pos (by omega), if_pos (by omega)]
  simp
theorem RL.at {b : Bool} {H : Hp} {vs : List V} {ds : List D} {i : Int} {d : D} (r : RL b H vs ds) (h : atI ds i = some d) : ∃ v, atI vs i = some v ∧ R b H v d := by
  unfold atI at h ⊢
  rw [r.len]
  cases e : ixN ds.length i with
  | none => rw [e] at h; cases h
  | some j =>
    rw [e] at h
    exact RL.get r (show ds[j]? = some d from h)
theorem ev_ixT {ds : List D} (ha : EvP b ps ta (.tup ds)) (hb : EvP b ps tb (.int i)) (h : atI ds i = some d) : EvP b ps (tOp (rIxT K) ta tb) d :=
  ev_two ha hb fun x y H G sub r1 r2 Q q => by
    obtain ⟨a, vs, rfl, e, l⟩ := r1.tup_
    obtain ⟨v, e1, r⟩ := l.at h
    exact ⟨a, vs, i, v, rfl, r2.int_, SqT.of (sub _ _ e), e1, q v H (Same.refl H) (r.same (ext_ge sub (Same.refl H)))⟩
theorem ev_ixL {ds : List D} (ha : EvP b ps ta (.lst ds)) (hb : EvP b ps tb (.int i)) (h : atI ds i = some d) : EvP b ps (tOp (rIxL K) ta tb) d :=
  ev_two ha hb fun x y H G sub r1 r2 Q q => by
    obtain ⟨a, vs, rfl, e, l⟩ := r1.lst_
    obtain ⟨v, e1, r⟩ := l.at h
    exact ⟨a, vs, i, v, rfl, r2.int_, SqL.of (sub _ _ e), e1, q v H (Same.refl H) (r.same (ext_ge sub (Same.refl H)))⟩
/-- an item of a tuple or list of things of one kind -/
theorem atI_map {α β : Type} {f : α → β} {l : List α} {i : Int} {x : α} (h0 : 0 ≤ i) (h1 : i.toNat < l.length) (z : α) (h : l.getD i.toNat z = x) : atI (l.map f) i = some (f x) := by
  have e : i = ((i.toNat : Nat) : Int) := by omega
  rw [e]
  refine atI_nat ?_
  rw [List.getElem?_map, List.getElem?_eq_getElem h1]
  rw [List.getD_eq_getElem?_getD, List.getElem?_eq_getElem h1] at h
  rw [← h] <;> rfl
/-! slices -/
theorem eo_none : EoP b ps tNoPart none := fun σ H G sub s Q q => q H (Same.refl H)
theorem eo_some (h : EvP b ps te (.int i)) : EoP b ps (tPart te) (some i) := fun σ H G sub s Q q => h σ H G sub s _ fun v H2 e2 r => ⟨i, r.int_, q H2 e2⟩
def cutD (ds : List D) (lo hi : Option Int) : List D := (ds.drop (HT.sIx ds.length 0 lo)).take (HT.sIx ds.length ds.length hi - HT.sIx ds.length 0 lo)
theorem RL.cut {b : Bool} {H : Hp} {vs : List V} {ds : List D} (r : RL b H vs ds) (lo hi : Option Int) : RL b H (cutV vs lo hi) (cutD ds lo hi) := by
  unfold cutV cutD
  rw [r.len]
  exact (r.drop _).take _
theorem cut_all {ds : List D} {lo hi : Option Int} (h : HT.sIx ds.length 0 lo = 0 ∧ HT.sIx ds.length ds.length hi = ds.length) : cutD ds lo hi = ds := by
  unfold cutD
  rw [h.1, h.2]
  simp
theorem ev_sliceT {tl th : TO} {ds : List D} {lo hi : Option Int} (ha : EvP b ps ta (.tup ds)) (h1 : EoP b ps tl lo) (h2 : EoP b ps th hi) : EvP b ps (tSl (rSlA K) ta tl th) (.tup (cutD ds lo hi)) := fun σ H G sub s Q q =>
  ha σ H G sub s _ fun x H1 e1 r1 => h1 σ H1 (ext G H H1) (ext_sub sub e1) (s.same (ext_ge sub e1)) _ fun H2 e2 => h2 σ H2 (ext G H H2) (ext_sub sub (e1.trans e2)) (s.same (ext_ge sub (e1.trans e2))) _ fun H3 e3 => by
    have e := (e1.trans e2).trans e3
    have r : R b (ext G H H3) x (.tup ds) := r1.same fun a o h => ext_ext sub e1 (e2.trans e3) _ _ (ext_ge (ext_sub sub e1) (e2.trans e3) _ _ h)
    obtain ⟨a, vs, rfl, ea, l⟩ := r.tup_
    refine ⟨a, vs, rfl, SqT.of (ext_sub sub e _ _ ea), fun hh => q _ H3 e ?_, fun hh p hp => q _ _ (e.trans (same_upd hp)) ?_⟩
    · rw [l.len] at hh
      rw [cut_all hh]
      exact r
    · have z := r_newT (b := b) (ext_sub sub e) hp (l.cut lo hi)
      exact z.same (ext_ext sub e (same_upd hp))
theorem ev_sliceL {tl th : TO} {ds : List D} {lo hi : Option Int} (ha : EvP b ps ta (.lst ds)) (h1 : EoP b ps tl lo) (h2 : EoP b ps th hi) : EvP b ps (tSl (rSlL K) ta tl th) (.lst (cutD ds lo hi)) := fun σ H G sub s Q q =>
  ha σ H G sub s _ fun x H1 e1 r1 => h1 σ H1 (ext G H H1) (ext_sub sub e1) (s.same (ext_ge sub e1)) _ fun H2 e2 => h2 σ H2 (ext G H H2) (ext_sub sub (e1.trans e2)) (s.same (ext_ge sub (e1.trans e2))) _ fun H3 e3 => by
    have e := (e1.trans e2).trans e3
    have r : R b (ext G H H3) x (.lst ds) := r1.same fun a o h => ext_ext sub e1 (e2.trans e3) _ _ (ext_ge (ext_sub sub e1) (e2.trans e3) _ _ h)
    obtain ⟨a, vs, rfl, ea, l⟩ := r.lst_
    refine ⟨a, vs, rfl, SqL.of (ext_sub sub e _ _ ea), fun p hp => q _ _ (e.trans (same_upd hp)) ?_⟩
    have z := r_newL (b := b) (ext_sub sub e) hp (l.cut lo hi)
    exact z.same (ext_ext sub e (same_upd hp))
/-! + and * of sequences -/
theorem ev_catT {ds es : List D} (ha : EvP b ps ta (.tup ds)) (hb : EvP b ps tb (.tup es)) (hz : ds.length + es.length ≤ 100000) : EvP b ps (tOp (rCatA K) ta tb) (.tup (ds ++ es)) :=
  ev_two ha hb fun x y H G sub r1 r2 Q q => by
    obtain ⟨a, vs, rfl, ea, l⟩ := r1.tup_
    obtain ⟨c, ws, rfl, ec, m⟩ := r2.tup_
    have hl := l.len
    have hm := m.len
    refine ⟨a, c, vs, ws, rfl, rfl, SqT.of (sub _ _ ea), SqT.of (sub _ _ ec), sz_of (by omega), fun h => ?_, fun _ h => ?_, fun _ _ p hp => ?_⟩
    · subst h
      have : ds = [] := List.eq_nil_of_length_eq_zero hl.symm
      subst this
      exact q _ H (Same.refl H) (r2.same (ext_ge sub (Same.refl H)))
    · subst h
      have : es = [] := List.eq_nil_of_length_eq_zero hm.symm
      subst this
      rw [List.append_nil] at q
      exact q _ H (Same.refl H) (r1.same (ext_ge sub (Same.refl H)))
    · exact q _ _ (same_upd hp) (r_newT sub hp (l.append m))
theorem ev_catL {ds es : List D} (ha : EvP b ps ta (.lst ds)) (hb : EvP b ps tb (.lst es)) (hz : ds.length + es.length ≤ 100000) : EvP b ps (tOp rCat ta tb) (.lst (ds ++ es)) :=
  ev_two ha hb fun x y H G sub r1 r2 Q q => by
    obtain ⟨a, vs, rfl, ea, l⟩ := r1.lst_
    obtain ⟨c, ws, rfl, ec, m⟩ := r2.lst_
    have hl := l.len
    have hm := m.len
    exact ⟨a, c, vs, ws, rfl, rfl, sub _ _ ea, sub _ _ ec, sz_of (by omega), fun p hp => q _ _ (same_upd hp) (r_newL sub hp (l.append m))⟩
theorem ev_repT {ds : List D} (ha : EvP b ps ta (.tup ds)) (hb : EvP b ps tb (.int i)) (h0 : ds ≠ []) (h1 : 2 ≤ i) (h2 : i ≤ 1000) (hz : ds.length ≤ 1000) : EvP b ps (tOp (rRepT K) ta tb) (.tup (List.replicate i.toNat ds).flatten) :=
  ev_two ha hb fun x y H G sub r1 r2 Q q => by
    obtain ⟨a, vs, rfl, ea, l⟩ := r1.tup_
    have hl := l.len
    exact ⟨a, i, vs, rfl, r2.int_, SqT.of (sub _ _ ea), fun z => h0 (by subst z; exact List.eq_nil_of_length_eq_zero hl.symm), h1, h2, by omega, fun p hp => q _ _ (same_upd hp) (r_newT sub hp (l.flat _))⟩
theorem ev_repL {ds : List D} (ha : EvP b ps ta (.lst ds)) (hb : EvP b ps tb (.int i)) (h1 : 0 ≤ i) (h2 : i ≤ 1000) (hz : ds.length ≤ 100) : EvP b ps (tOp rRep ta tb) (.lst (List.replicate i.toNat ds).flatten) :=
  ev_two ha hb fun x y H G sub r1 r2 Q q => by
    obtain ⟨a, vs, rfl, ea, l⟩ := r1.lst_
    have hl := l.len
    have hm : vs.length * i.toNat ≤ 100 * 1000 := Nat.mul_le_mul (by omega) (by omega)
    exact ⟨a, i, vs, rfl, r2.int_, sub _ _ ea, by omega, by omega, sz_of (by omega), fun p hp => q _ _ (same_upd hp) (r_newL sub hp (l.flat _))⟩
theorem ev_revL {ds : List D} (ha : EvP b ps ta (.lst ds)) : EvP b ps (tRevL K ta) (.lst ds.reverse) :=
  ev_one (r := fun x H1 Q => ∃ a xs, x = .ref a ∧ SqL K H1 a xs ∧ ∀ p, H1 p = none → Q (.ref p) (upd H1 p (.lst xs.reverse))) ha fun x H G sub r1 Q q => by
    obtain ⟨a, vs, rfl, ea, l⟩ := r1.lst_
    exact ⟨a, vs, rfl, SqL.of (sub _ _ ea), fun p hp => q _ _ (same_upd hp) (r_newL sub hp l.rev)⟩
end
end SP
set_option Elab.async false
set_option linter.all false
set_option maxRecDepth 100000
/-! Stillpanes, part 3: rules for dicts whose keys are tuples: values() and items() walked, dict(pairs), update(pairs), one-pair displays, == with an empty one. -/
namespace SP
open PySem L2 PySem.Spec PyProof.Rows

section
variable {X : Cx} {pins : List (Addr × Obj)} {σ : L2.St} {H : Hp} {s : Shared} {d : Addr} {o : Obj}
/-- a locked dict: its entries, keys and values -/
theorem frz_all {kvs : List (List Key × V)} (I : Inv X pins σ H s) (h : H d = some (.frz o (.dT kvs))) :
    (d == sysModules) = false ∧ s.heap.get? d = some o ∧ o.ExactDict ∧ ∃ (es : Array DictEntry) (ep : Nat), o.data = .dict es ep ∧ es.size = kvs.length ∧
      ∀ (i : Nat) (k : List Key) (v : V), kvs[i]? = some (k, v) → ∃ (hi : i < es.size) (q : Addr), es[i].key = .ref q ∧ H q = some (.tup (k.map kV)) ∧ RelV v es[i].val := by
  obtain ⟨hd, z, hs, xs, pr, o2, es, ep, ho, hx, hdt, he, _⟩ := I.hok d _ h
  rw [hd] at ho
  cases ho
  have l1 : es.size = xs.length := size_of_entries he
  have l2 : kvs.length = xs.length := Paired.length pr
  refine ⟨hs, hd, hx, es, ep, hdt, by omega, fun i k v e => ?_⟩
  obtain ⟨b, hb, e1, e2, e3⟩ := paired_get pr e
  have q := entry_at he i
  rw [hb] at q
  have hi : i < es.size := by
    have := (List.getElem?_eq_some_iff.mp e).1
    omega
  rw [Array.getElem?_eq_getElem hi] at q
  have q2 := Option.some.inj q
  refine ⟨hi, b.2.1, ?_, e2, ?_⟩
  · rw [q2]; rfl
  · rw [q2]; exact e3
end

/-! ### d.values() -/
def Itdt (d : Addr) (o : Obj) (kvs : List (List Key × V)) : It :=
  ⟨fun i H => H d = some (.frz o (.dT kvs)) ∧ i < kvs.length, fun i H x H' => H' = H ∧ ∃ k, kvs[i]? = some (k, x), fun i H => H d = some (.frz o (.dT kvs)) ∧ kvs.length ≤ i⟩
def Itit (d : Addr) (o : Obj) (kvs : List (List Key × V)) : It :=
  ⟨fun i H => H d = some (.frz o (.dT kvs)) ∧ i < kvs.length,
    fun i H x H' => ∃ T k v q, kvs[i]? = some (k, v) ∧ H q = some (.tup (k.map kV)) ∧ x = .ref T ∧ H T = none ∧ H' = upd H T (.tup [.ref q, v]), fun i H => H d = some (.frz o (.dT kvs)) ∧ kvs.length ≤ i⟩
section
variable {P : Program} {w : World} {K : PySem.W.Frag} {tg : Expr} {d : Addr} {o : Obj} {es : Array DictEntry} {ep : Nat}
theorem turn_valsT {kvs : List (List Key × V)} (it : Addr) (hod : o.data = .dict es ep) : Turn P w K tg (Itdt d o kvs) [it] it (fun i h => h.IsValIter it d i kvs.length ep) where
  mem := List.mem_singleton.mpr rfl
  obj := fun i h st c hc => by
    have e := List.mem_singleton.mp hc
    subst e
    obtain ⟨oi, e, _, dd⟩ := st
    exact ⟨oi, e, fun v z => by rw [dd] at z; cases z⟩
  keep := fun i h h' st k => st.at fun oi e => k it (List.mem_singleton.mpr rfl) oi e
  item := by
    intro X hP hw hK hc i pins s σ H E I hf st hg
    subst hP hw hK
    obtain ⟨hd, hi⟩ := hg
    obtain ⟨f0, f1, f2, f3, f4, f5⟩ := hf it (List.mem_singleton.mpr rfl)
    obtain ⟨hs, hgd, hx, es2, ep2, hdt, hsz, ent⟩ := frz_all I hd
    obtain ⟨rfl, rfl⟩ := dict_ep hod hdt
    obtain ⟨⟨k, v⟩, hkv⟩ : ∃ p, kvs[i]? = some p := ⟨kvs[i], List.getElem?_eq_getElem hi⟩
    obtain ⟨hlt, q, _, _, rv⟩ := ent i k v hkv
    rw [← hsz] at st
    refine wpAny_pyNext_values_item_raw st ⟨o, hgd, hx, hdt⟩ hlt fun h' st2 sb => ?_
    have I1 : Inv X pins σ H { s with heap := h' } := I.turned (t' := s.toks) (fun b ob hb e => (sb.2 b hb).trans e) f0 f1 f3 f4 f5
    obtain ⟨oi, e, c, dd⟩ := id st2
    refine ⟨_, rfl, go_of (s := { s with heap := h' }) e c dd (by decide) ⟨v, H, I1, rv, ⟨rfl, k, hkv⟩, ?_, fun b hb => (hf b hb).1⟩⟩
    rw [← hsz]
    exact st2
  done := by
    intro X hP hw hK hc i pins s σ H E I hf st hg
    subst hP hw hK
    obtain ⟨hd, hi⟩ := hg
    obtain ⟨f0, f1, f2, f3, f4, f5⟩ := hf it (List.mem_singleton.mpr rfl)
    obtain ⟨hs, hgd, hx, es2, ep2, hdt, hsz, ent⟩ := frz_all I hd
    obtain ⟨rfl, rfl⟩ := dict_ep hod hdt
    rw [← hsz] at st
    exact wpAny_pyNext_values_end_raw (I.ok.hd hc) st ⟨o, hgd, hx, hdt⟩ (by omega) fun h' eb => ⟨rfl, I.turned (t' := s.toks) (fun b ob hb e => eb b ob hb e) f0 f1 f3 f4 f5⟩
  self := fun A i s Q E st h => wpAny_pyIter_valiter st h
theorem turn_itemsT {kvs : List (List Key × V)} {elts : List Expr} {kk : Nat} {tpos : Pos} (it : Addr) (hod : o.data = .dict es ep) :
    Turn P w K (.Tuple elts kk tpos) (Itit d o kvs) [it] it (fun i h => ∃ ok ov, IsItemIter h it d i kvs.length ep ok ov) where
  mem := List.mem_singleton.mpr rfl
  obj := fun i h st c hc => by
    have e := List.mem_singleton.mp hc
    subst e
    obtain ⟨ok, ov, e⟩ := st
    exact ⟨_, e, fun v z => nomatch z⟩
  keep := fun i h h' st k => let ⟨ok, ov, e⟩ := st; ⟨ok, ov, k it (List.mem_singleton.mpr rfl) _ e⟩
  item := by
    intro X hP hw hK hc i pins s σ H E I hf st hg
    subst hP hw hK
    obtain ⟨hd, hi⟩ := hg
    obtain ⟨hs, hgd, hx, es2, ep2, hdt, hsz, ent⟩ := frz_all I hd
    obtain ⟨rfl, rfl⟩ := dict_ep hod hdt
    obtain ⟨⟨k, v⟩, hkv⟩ : ∃ p, kvs[i]? = some p := ⟨kvs[i], List.getElem?_eq_getElem hi⟩
    obtain ⟨hlt, q, hq, hkq, rv⟩ := ent i k v hkv
    obtain ⟨ok, ov, he⟩ := st
    rw [← hsz] at he
    have hit : it < s.heap.objs.size := Heap.lt_size he
    refine DT.nextI he ⟨o, hgd, hx, hdt⟩ hlt fun h' ho hT hz hk => ?_
    refine ⟨_, rfl, wpAny_letOwnedTupleGo_items (s := { s with heap := h' }) ho fun h2 he2 sb => ?_⟩
    have hT2 : h2.get? s.heap.objs.size = some { cls := .type "tuple", data := .seq #[es2[i].key, es2[i].val] } := (sb.2 _ (Nat.ne_of_gt hit)).trans hT
    have nw : ObjOk X.prog X.w (upd H s.heap.objs.size (.tup [.ref q, v])) h2 s.heap.objs.size (.tup [.ref q, v]) :=
      ⟨by show 2 ≤ sizeLine; decide, [es2[i].key, es2[i].val], .cons (show RelV (.ref q) es2[i].key from hq) (.cons rv .nil), ⟨_, hT2, rfl, _, rfl⟩⟩
    have I1 : Inv X pins σ (upd H s.heap.objs.size (.tup [.ref q, v])) { s with heap := h2 } :=
      I.turnedNew (t' := s.toks) (ch := [it]) (fun b ob hb e => (sb.2 b (by simpa using hb)).trans (hk b ob (by simpa using hb) e)) hf (Nat.le_refl _) nw
    refine ⟨.ref s.heap.objs.size, _, I1, rfl, ⟨_, k, v, q, hkv, hkq, rfl, I.hok.fresh (Nat.le_refl _), rfl⟩, ⟨_, _, by rw [← hsz]; exact he2⟩, fun b hb => ?_⟩
    have e := List.mem_singleton.mp hb
    rw [e, upd_ne (Nat.ne_of_lt hit)]
    exact (hf it (List.mem_singleton.mpr rfl)).1
  done := by
    intro X hP hw hK hc i pins s σ H E I hf st hg
    subst hP hw hK
    obtain ⟨hd, hi⟩ := hg
    obtain ⟨f0, f1, f2, f3, f4, f5⟩ := hf it (List.mem_singleton.mpr rfl)
    obtain ⟨hs, hgd, hx, es2, ep2, hdt, hsz, ent⟩ := frz_all I hd
    obtain ⟨rfl, rfl⟩ := dict_ep hod hdt
    obtain ⟨ok, ov, he⟩ := st
    rw [← hsz] at he
    exact DT.endI (I.ok.hd hc) he ⟨o, hgd, hx, hdt⟩ (by omega) fun h' eb => ⟨rfl, I.turned (t' := s.toks) (fun b ob hb e => eb b ob hb e) f0 f1 f3 f4 f5⟩
  self := fun A i s Q E st h => let ⟨_, _, e⟩ := st; PySem.W.kcp_self e h
end
def iValsT (td : TE) : TI := fun σ H R => td σ H fun x H1 => ∃ d o kvs, x = .ref d ∧ H1 d = some (.frz o (.dT kvs)) ∧ R (Itdt d o kvs) H1
def iItemsT (td : TE) : TI := fun σ H R => td σ H fun x H1 => ∃ d o kvs, x = .ref d ∧ H1 d = some (.frz o (.dT kvs)) ∧ R (Itit d o kvs) H1
section
variable {X : Cx} {tg e : Expr} {td : TE} {apos cpos : Pos}
theorem pi_valuesT (he : PE X e td) (hbase : attributeBase e "values" X.env (eval e X.env) = eval e X.env := by rfl) (hline : (apos.endLine == cpos.line) = true := by rfl) : PI X tg (.Call (.Attribute e "values" apos) [] [] cpos) (iValsT td) := by
  refine ⟨fun pins s σ H R I h => ?_⟩
  refine wpAny_Call_method (T := "dict") (id := "dict.values") hbase rfl hline F.plainAttrs_dict F.slot_dict_values F.type_dict_values (thn (he.run pins s σ H _ I h) fun u s1 ⟨x, H1, I1, rx, d, o, kvs, ex, hd, q⟩ => ?_)
  subst ex
  obtain rfl : u = Value.ref d := rx
  obtain ⟨hs, hgd, hx, es, ep, hdt, hsz, ent⟩ := frz_all I1 hd
  have raw : s1.heap.DictRaw d es ep := ⟨o, hgd, hx, hdt⟩
  refine ⟨raw.typeIs, fun b q => by cases q; exact ⟨o, hgd, hx.2.1⟩, ?_⟩
  have I2 : Inv X pins σ H1 { s1 with heap := s1.heap.push { cls := .type "dict_values", data := .fields #[.ref d] } } := I1.kept (t' := s1.toks) fun b ob q => Heap.get?_push_of_some _ q
  have fin : wpAny (model X.prog X.w) X.A (pyIter (.ref s1.heap.objs.size)) (PIE X pins σ tg R) X.xe { s1 with heap := s1.heap.push { cls := .type "dict_values", data := .fields #[.ref d] } } := by
    refine wpAny_pyIter_values_raw (d := d) (es := es) (ep := ep) ⟨_, Heap.get?_push_size _ rfl, rfl, rfl⟩ (raw.at fun ob z => Heap.get?_push_of_some _ z) (pi_one (tk := s1.toks) I2 _ (turn_valsT _ hdt) ⟨_, Heap.get?_push_size _ rfl, rfl, ?_⟩ q)
    rw [hsz] <;> rfl
  show wpAny _ _ (callWith cpos (.builtin "dict.values") [.ref d] [] []) _ X.xe s1
  exact method_meetsIn F.slot_dict_values F.entry_dict_values rfl (PySem.evalArgs_none ⟨rfl, raw.typeIs, F.args_dict_values_1 _, _, meets_dict_values_raw d hs, ⟨⟨es, ep, raw⟩, fin⟩⟩)
theorem pi_itemsT {elts : List Expr} {kk : Nat} {tpos : Pos} (he : PE X e td) (hbase : attributeBase e "items" X.env (eval e X.env) = eval e X.env := by rfl) (hline : (apos.endLine == cpos.line) = true := by rfl) :
    PI X (.Tuple elts kk tpos) (.Call (.Attribute e "items" apos) [] [] cpos) (iItemsT td) := by
  refine ⟨fun pins s σ H R I h => ?_⟩
  refine wpAny_Call_method (T := "dict") (id := "dict.items") hbase rfl hline F.plainAttrs_dict F.slot_dict_items F.type_dict_items (thn (he.run pins s σ H _ I h) fun u s1 ⟨x, H1, I1, rx, d, o, kvs, ex, hd, q⟩ => ?_)
  subst ex
  obtain rfl : u = Value.ref d := rx
  obtain ⟨hs, hgd, hx, es, ep, hdt, hsz, ent⟩ := frz_all I1 hd
  have raw : DT.Raw s1.heap d es ep := ⟨o, hgd, hx, hdt⟩
  refine ⟨raw.typeIs, fun b q => by cases q; exact ⟨o, hgd, hx.2.1⟩, ?_⟩
  have I2 : Inv X pins σ H1 { s1 with heap := s1.heap.push { cls := .type "dict_items", data := .fields #[.ref d] } } := I1.kept (t' := s1.toks) fun b ob q => Heap.get?_push_of_some _ q
  have fin : wpAny (model X.prog X.w) X.A (pyIter (.ref s1.heap.objs.size)) (PIE X pins σ (.Tuple elts kk tpos) R) X.xe { s1 with heap := s1.heap.push { cls := .type "dict_items", data := .fields #[.ref d] } } := by
    refine DT.iterI (d := d) (es := es) (ep := ep) ⟨_, Heap.get?_push_size _ rfl, rfl, rfl⟩ (raw.push _) (pi_one (tk := s1.toks) I2 _ (turn_itemsT _ hdt) ⟨.none, .none, ?_⟩ q)
    rw [← hsz]
    exact Heap.get?_push_size _ rfl
  show wpAny _ _ (callWith cpos (.builtin "dict.items") [.ref d] [] []) _ X.xe s1
  exact method_meetsIn F.slot_dict_items F.entry_dict_items rfl (PySem.evalArgs_none ⟨rfl, raw.typeIs, F.args_dict_items_1 _, _, DT.meetsItems (es := es) (ep := ep) hs, ⟨raw, fin⟩⟩)
end

/-! ### dict(a list of pairs), d.update(a list of pairs), {t: v} -/
def mergeT (kvs more : List (List Key × V)) : List (List Key × V) := more.foldl (fun acc kv => putK acc kv.1 kv.2) kvs
theorem length_mergeT : ∀ (more kvs : List (List Key × V)), (mergeT kvs more).length ≤ kvs.length + more.length
  | [], kvs => Nat.le_refl _
  | p :: r, kvs => by
    have h1 := length_mergeT r (putK kvs p.1 p.2)
    have h2 := length_putK kvs p.1 p.2
    show (mergeT (putK kvs p.1 p.2) r).length ≤ kvs.length + (p :: r).length
    rw [List.length_cons]
    omega
theorem KT.merge {H : Hp} : ∀ {more : List (List Key × V)} {rs : List (List Key × Addr × Value)} {kvs : List (List Key × V)} {vs : List (List Key × Addr × Value)}, KT H more rs → KT H kvs vs → KT H (mergeT kvs more) (storedAllH vs rs) := by
  intro more rs kvs vs r
  unfold L2.KT at r
  induction r generalizing kvs vs with
  | nil => intro q; exact q
  | @cons p q ps qs h t ih =>
    intro r0
    have e : KT H (putK kvs p.1 p.2) (storedH vs q.1 q.2.1 q.2.2) := by
      have z := L2.KT.put r0 p.1 h.2.1 h.2.2
      rw [← h.1]
      exact z
    exact ih e
/-- the items are pairs of a key's tuple and a value -/
def PairsT (H : Hp) (its : List V) (kvs : List (List Key × V)) : Prop := Paired (fun (p : V) (kv : List Key × V) => ∃ t q, p = .ref t ∧ H t = some (.tup [.ref q, kv.2]) ∧ H q = some (.tup (kv.1.map kV))) its kvs
section
variable {X : Cx} {pins : List (Addr × Obj)} {σ : L2.St} {H : Hp} {s : Shared}
theorem pairs_ofT (I : Inv X pins σ H s) {its : List V} {kvs : List (List Key × V)} (hp : PairsT H its kvs) : ∀ {us : List Value}, Vals its us → ∃ (ps : List (List Key × Addr × Value)) (Ts : List Addr), KT H kvs ps ∧ us = Ts.map Value.ref ∧ Ts.length = ps.length ∧
    (∀ (j : Nat) (t : Addr) (p : List Key × Addr × Value), Ts[j]? = some t → ps[j]? = some p → s.heap.IsTuple t #[.ref p.2.1, p.2.2]) ∧ (∀ t ∈ Ts, ∃ xs, H t = some (.tup xs)) := by
  unfold PairsT at hp
  induction hp with
  | nil =>
    intro us r
    cases r
    exact ⟨[], [], .nil, rfl, rfl, fun j t p e => by simp at e, fun t ht => nomatch ht⟩
  | @cons p kv its kvs h _ ih =>
    intro us r
    cases r with
    | @cons _ u _ us r rr =>
      obtain ⟨t, q, rfl, ht, hq⟩ := h
      cases r
      obtain ⟨ps, Ts, k1, e1, l1, m1, n1⟩ := ih rr
      obtain ⟨ws, rv, tp, hz⟩ := I.tuple (SqT.of ht)
      obtain ⟨w1, w2, rfl, r1, r2⟩ : ∃ w1 w2, ws = [w1, w2] ∧ RelV (.ref q) w1 ∧ RelV kv.2 w2 := by
        cases rv with
        | cons a b =>
          cases b with
          | cons c dd =>
            cases dd
            exact ⟨_, _, rfl, a, c⟩
      cases r1
      refine ⟨(kv.1, q, w2) :: ps, t :: Ts, .cons ⟨rfl, hq, r2⟩ k1, by rw [e1]; rfl, by simp [l1], fun j t2 p2 ej ep => ?_, fun t2 ht2 => ?_⟩
      · cases j with
        | zero =>
          simp at ej ep
          subst ej ep
          exact tp
        | succ j => exact m1 j t2 p2 (by simpa using ej) (by simpa using ep)
      · rcases List.mem_cons.mp ht2 with z | z
        · subst z; exact ⟨_, ht⟩
        · exact n1 t2 z
theorem keys_isT (I : Inv X pins σ H s) : ∀ {kvs : List (List Key × V)} {ps : List (List Key × Addr × Value)}, KT H kvs ps → ∀ x ∈ ps, (tupleKind (mixKind X.prog X.w)).is s.heap x.1 x.2.1 := by
  intro kvs ps r
  unfold L2.KT at r
  induction r with
  | nil => intro x hx; exact nomatch hx
  | @cons p q ps qs h t ih =>
    intro x hx
    rcases List.mem_cons.mp hx with e | hx
    · subst e
      exact key_of I.hok (by rw [← h.1]; exact h.2.1)
    · exact ih x hx
theorem pair_items {Ts : List Addr} {ps : List (List Key × Addr × Value)} (hl : Ts.length = ps.length) (m : ∀ (j : Nat) (t : Addr) (p : List Key × Addr × Value), Ts[j]? = some t → ps[j]? = some p → s.heap.IsTuple t #[.ref p.2.1, p.2.2]) :
    PairItems s.heap (Ts.map Value.ref).toArray (fun j => Ts.getD j 0) (ps.map fun p => (Value.ref p.2.1, p.2.2)) := by
  refine ⟨by simp [hl], fun j k v e => ?_⟩
  rw [List.getElem?_map] at e
  obtain ⟨p, ep, e2⟩ := Option.map_eq_some_iff.mp e
  have hj : j < Ts.length := by
    have := (List.getElem?_eq_some_iff.mp ep).1
    omega
  have et : Ts[j]? = some Ts[j] := List.getElem?_eq_getElem hj
  have eg : Ts.getD j 0 = Ts[j] := by rw [List.getD_eq_getElem?_getD, et]; rfl
  cases e2
  refine ⟨?_, .inl ?_⟩
  · show (Ts.map Value.ref).toArray[j]? = some (Value.ref (Ts.getD j 0))
    rw [eg, List.getElem?_toArray, List.getElem?_map, et]; rfl
  · show s.heap.IsTuple (Ts.getD j 0) _
    rw [eg]; exact m j _ p et ep
end
section
variable {X : Cx}
def rDictT : List V → Hp → VK → Prop := fun vs H Q => ∃ (a : Addr) (its : List V) (kvs : List (List Key × V)), vs = [.ref a] ∧ H a = some (.lst its) ∧ PairsT H its kvs ∧ ∀ p, H p = none → Q (.ref p) (upd H p (.dT (mergeT [] kvs)))
theorem call_dictT (hc : X.calm = true) (hu : X.A.units + 4 < cLine) : CallR X (.type "dict") rDictT := by
  intro pins s σ H xs us Q I r h
  obtain ⟨a, its, kvs, rfl, ha, hp, q⟩ := h
  obtain ⟨u, rfl, rx⟩ := vals1 r
  cases rx
  obtain ⟨ws, rv, pl, hz⟩ := I.list (SqL.of ha)
  obtain ⟨ps, Ts, kt, ews, hl, m, tt⟩ := pairs_ofT I hp rv
  subst ews
  have hlen : kvs.length = its.length := (Paired.length hp).symm
  have hps : ps.length = kvs.length := (Paired.length kt).symm
  obtain ⟨ob, n, ho, hcl, hdi, hdat⟩ := pl
  have pit := pair_items hl m
  have hrel : PairsHaveH (tupleKind (mixKind X.prog X.w)) (ps.map fun p => (Value.ref p.2.1, p.2.2)).length (PairRel (ps.map fun p => (Value.ref p.2.1, p.2.2))) ps := by
    refine ⟨by simp, fun i key v e => ?_⟩
    have e : (ps.map fun p => (Value.ref p.2.1, p.2.2))[i]? = some (key, v) := e
    rw [List.getElem?_map] at e
    obtain ⟨p, ep, e2⟩ := Option.map_eq_some_iff.mp e
    cases e2
    exact ⟨p.1, p.2.1, ep, rfl⟩
  refine call_dict_pairsH (PairArg.list a _ _ _) (I.ok.hd hc) (knd := tupleKind (mixKind X.prog X.w)) (ps := ps) (show X.A.in1.in1.units < cLine by show X.A.units + 1 + 1 < cLine; omega) ⟨⟨ob, n, ho, hcl, hdi, hdat⟩, pit⟩ hrel
    (fun h' hk x hx => tupleKind_stays.stays (fun b o vs nn e _ => hk b o (Nat.ne_of_lt (Heap.lt_size e)) (fun z => nomatch z) e) (keys_isT I kt x hx)) (by simp [hps, hlen]; exact hz) fun h' tk hd hk => ?_
  have hmod : (s.heap.objs.size == sysModules) = false := beq_eq_false_iff_ne.mpr (Nat.ne_of_gt I.big)
  have kz : (mergeT [] kvs).length ≤ sizeLine := by
    have := length_mergeT kvs []
    rw [List.length_nil, Nat.zero_add] at this
    omega
  have hn : H s.heap.objs.size = none := I.hok.fresh (Nat.le_refl _)
  obtain ⟨od, es, ep, h1, h2, h3, h4, _, h5⟩ := hd
  have kt2 : KT (upd H s.heap.objs.size (.dT (mergeT [] kvs))) (mergeT [] kvs) (storedAllH [] ps) := (KT.merge kt .nil).keeps fun c ys ec => by
    rw [upd_ne (ne_of_none ec hn)]; exact ec
  exact ⟨.ref s.heap.objs.size, _, I.laid (t' := tk) (fun b o e => hk b o (fun z => nomatch z) e) (Nat.le_refl _)
    (show ObjOk X.prog X.w _ h' _ (.dT (mergeT [] kvs)) from ⟨kz, hmod, _, kt2, od, es, ep, h1, h2, h3, h4, h5⟩), rfl, q _ hn⟩
def rUpdT : V → List V → Hp → VK → Prop := fun x vs H Q => ∃ (d a : Addr) (its : List V) (ks kvs : List (List Key × V)), x = .ref d ∧ vs = [.ref a] ∧ H d = some (.dT ks) ∧ H a = some (.lst its) ∧ PairsT H its kvs ∧ ks.length + kvs.length ≤ sizeLine ∧ Q .non (upd H d (.dT (mergeT ks kvs)))
theorem mt_updT (hc : X.calm = true) (hu : X.A.units + 4 < cLine) : MtR X "dict.update" rUpdT := by
  intro pins s σ H x xs v us Q I rx rs h
  obtain ⟨d, a, its, ks, kvs, rfl, rfl, hd, ha, hp, hzz, q⟩ := h
  obtain ⟨u, rfl, ru⟩ := vals1 rs
  cases rx
  cases ru
  obtain ⟨ws, rv, pl, hz⟩ := I.list (SqL.of ha)
  obtain ⟨ps, Ts, kt, ews, hl, m, tt⟩ := pairs_ofT I hp rv
  subst ews
  have hlen : kvs.length = its.length := (Paired.length hp).symm
  have hps : ps.length = kvs.length := (Paired.length kt).symm
  obtain ⟨ob, n, ho, hcl, hdi, hdat⟩ := pl
  obtain ⟨zk, hmod, xs, kd, dd⟩ := dt_of I.hok hd
  have hxs : xs.length = ks.length := (Paired.length kd).symm
  have pit := pair_items hl m
  have hrel : PairsHaveH (tupleKind (mixKind X.prog X.w)) (ps.map fun p => (Value.ref p.2.1, p.2.2)).length (PairRel (ps.map fun p => (Value.ref p.2.1, p.2.2))) ps := by
    refine ⟨by simp, fun i key v e => ?_⟩
    have e : (ps.map fun p => (Value.ref p.2.1, p.2.2))[i]? = some (key, v) := e
    rw [List.getElem?_map] at e
    obtain ⟨p, ep, e2⟩ := Option.map_eq_some_iff.mp e
    cases e2
    exact ⟨p.1, p.2.1, ep, rfl⟩
  have hdf : d ∉ a :: (List.range (ps.map fun p => (Value.ref p.2.1, p.2.2)).length).map (fun j => Ts.getD j 0) := by
    intro z
    rcases List.mem_cons.mp z with z | z
    · subst z; rw [hd] at ha; cases ha
    · obtain ⟨j, hj, e⟩ := List.mem_map.mp z
      have hj2 : j < Ts.length := by
        have := List.mem_range.mp hj
        rw [List.length_map] at this
        omega
      have et : Ts[j]? = some Ts[j] := List.getElem?_eq_getElem hj2
      have eg : Ts.getD j 0 = Ts[j] := by rw [List.getD_eq_getElem?_getD, et]; rfl
      rw [eg] at e
      obtain ⟨ys, ey⟩ := tt Ts[j] (List.getElem_mem hj2)
      rw [e, hd] at ey
      cases ey
  obtain ⟨od0, es0, ep0, g1, g2, g3, g4, g5, g6⟩ := id dd
  refine call_update_pairsH (PairArg.list a _ _ _) (I.ok.hd hc) (knd := tupleKind (mixKind X.prog X.w)) (acc := xs) (ps := ps) (show X.A.in1.units < cLine by show X.A.units + 1 < cLine; omega) ⟨⟨ob, n, ho, hcl, hdi, hdat⟩, pit⟩ hdf hrel
    (fun h' hk x hx => tupleKind_stays.stays (fun b o vs nn e e2 => hk b o (fun z => by rw [z, g1] at e; cases e; rw [g3] at e2; cases e2) (fun z => nomatch z) e) (?_ : (tupleKind (mixKind X.prog X.w)).is s.heap x.1 x.2.1)) dd (by simp [hps, hxs]; exact hzz) fun h' tk hd' hk => ?_
  · rcases List.mem_append.mp hx with z | z
    · exact g5 x z
    · exact keys_isT I kt x z
  have kz : (mergeT ks kvs).length ≤ sizeLine := Nat.le_trans (length_mergeT kvs ks) hzz
  obtain ⟨od, es, ep, h1, h2, h3, h4, _, h5⟩ := hd'
  have kt2 : KT (upd H d (.dT (mergeT ks kvs))) (mergeT ks kvs) (storedAllH xs ps) := (KT.merge kt kd).keeps fun c ys ec => by
    rw [upd_ne (ne_of ec hd (fun z => nomatch z))]; exact ec
  exact ⟨.non, _, I.write (t' := tk) (x := d) (e := d) (by rw [hd]; exact True.intro) (.inl rfl) (fun b q hb z => hk b q hb (fun z => nomatch z) z) ⟨od, h1⟩
    (show ObjOk X.prog X.w _ h' _ (.dT (mergeT ks kvs)) from ⟨kz, hmod, _, kt2, od, es, ep, h1, h2, h3, h4, h5⟩), rfl, q⟩
/-- {t: v}, t a tuple -/
def tDispT (tk tv : TE) : TE := fun σ H Q => ∀ p, H p = none → tPairs [(tk, tv)] σ (upd H p (.dT [])) fun ps H2 => ∃ (b : Addr) (y : V) (k : List Key), ps = [(.ref b, y)] ∧ H2 b = some (.tup (k.map kV)) ∧ H2 p = some (.dT []) ∧ Q (.ref p) (upd H2 p (.dT [(k, y)]))
theorem pe_dispT {k v : Expr} {tk tv : TE} {pos : Pos} (hu : X.A.units + 4 < cLine) (hk : PE X k tk) (hv : PE X v tv) : PE X (.Dict [some k] [v] pos) (tDispT tk tv) := by
  refine ⟨fun pins s σ H Q I q => ?_⟩
  have hn := I.hok.fresh (Nat.le_refl s.heap.objs.size)
  have I1 := I.laid (a := s.heap.objs.size) (o := .dT []) (h' := s.heap.push { cls := .type "dict", data := .dict #[] }) (t' := s.toks) (fun _ _ q => Heap.get?_push_of_some _ q) (Nat.le_refl _) (dt_empty s.heap I.big)
  have run : PPs X pos [some k] [v] [(tk, tv)] := pps_cons hk hv pps_nil
  rw [arm_eval_Dict, zip_pairTrees [some k] [v] X.env pos rfl rfl, dictDisplay_pairs (pairTrees [some k] [v] X.env pos) (List.cons_ne_nil _ _) (show 1 < 17 by decide)]
  refine wpAny_bind (wpAny_standAt (wpAny_bind (wpAny_subDictH (knd := tupleKind (mixKind X.prog X.w)) (Q := fun d s' => wpAny (model X.prog X.w) X.A (pure (Value.ref d)) (EP X pins σ Q) X.xe s') (show X.A.units < cLine by omega) (show 1 ≤ 15 by decide)
    (thn (run.run pins _ σ _ _ I1 (q _ hn)) fun ws s2 ⟨ps, H2, I2, rel, b, y, kk, ep, eb, ed, q2⟩ => ?_))))
  subst ep
  cases rel with
  | @cons _ w _ ws h t =>
    cases t
    obtain ⟨w1, w2⟩ := w
    obtain ⟨r1, r2⟩ := h
    obtain rfl : w1 = Value.ref b := r1
    obtain ⟨zk, hmod, xs, kd, dd⟩ := dt_of I2.hok ed
    cases kd
    refine ⟨[(kk, b, w2)], ⟨rfl, rfl, key_of I2.hok eb, trivial⟩, dd, fun h' tk hd hs => wpAny_pure ?_⟩
    obtain ⟨od, es, ep, h1, h2, h3, h4, _, h5⟩ := hd
    have kt2 : KT (upd H2 s.heap.objs.size (.dT [(kk, y)])) [(kk, y)] (storedAllH [] [(kk, b, w2)]) := .cons ⟨rfl, by rw [upd_ne (ne_of eb ed (fun z => nomatch z))]; exact eb, r2⟩ .nil
    exact ⟨.ref s.heap.objs.size, _, I2.write (t' := tk) (x := s.heap.objs.size) (e := s.heap.objs.size) (by rw [ed]; exact True.intro) (.inl rfl) (fun c q hb z => (hs.2 c hb).trans z) ⟨od, h1⟩
      (show ObjOk X.prog X.w _ h' _ (.dT [(kk, y)]) from ⟨(by show 1 ≤ sizeLine; decide), hmod, _, kt2, od, es, ep, h1, h2, h3, h4, h5⟩), rfl, q2⟩
/-! ### a dict == an empty one -/
theorem same_zero {P : Program} {w : World} {A : Around} {E : Value → Shared → Prop} {s : Shared} {nm : String} {a c : Addr} {es fs : Array DictEntry} {ep fp : Nat} {Q : Bool → Shared → Prop} (ha : (a == sysModules) = false) (hc : (c == sysModules) = false)
    (da : s.heap.DictRaw a es ep) (dc : s.heap.DictRaw c fs fp) (hz : fs.size = 0) (h : Q (decide (es.size = 0)) s) : wpAny (model P w) A (Builtin.Dict.samePairs nm a c) Q E s := by
  obtain ⟨oa, hoa, _, hda⟩ := da
  obtain ⟨oc, hoc, _, hdc⟩ := dc
  unfold Builtin.Dict.samePairs Builtin.Dict.showsAll
  rw [if_neg (show ¬ (a == sysModules) = true by rw [ha]; decide), if_neg (show ¬ (c == sysModules) = true by rw [hc]; decide)]
  refine wpAny_bind (wpAny_pure (wpAny_bind (wpAny_pure (wpAny_bind (wpAny_dictEntries hoa hda ?_)))))
  dsimp only
  refine wpAny_bind (wpAny_dictEntries hoc hdc ?_)
  by_cases e : es.size = 0
  · rw [if_neg (by rw [e, hz]; decide)]
    rw [decide_eq_true e] at h
    refine wpAny_bind (wpAny_dictEpoch hoa hda (wpAny_bind ?_))
    rw [e, Std.Legacy.Range.forIn_eq_forIn_range']
    exact wpAny_pure (wpAny_pure h)
  · rw [if_pos (by rw [hz]; simpa using e)]
    rw [decide_eq_false e] at h
    exact wpAny_bind (wpAny_rule (wpAny_pure h))
section
variable {P : Program} {w : World} {A : Around} {E : Value → Shared → Prop} {s : Shared} {a c : Addr} {es fs : Array DictEntry} {ep fp : Nat} {Q : Value → Shared → Prop}
theorem eq_zero_dict (ha : (a == sysModules) = false) (hc : (c == sysModules) = false) (da : s.heap.DictRaw a es ep) (dc : s.heap.DictRaw c fs fp) (hz : fs.size = 0) (hu : A.units < cLine) (h : Q (.bool (decide (es.size = 0))) s) :
    wpAny (model P w) A (compareOp .Eq (.ref a) (.ref c)) Q E s := by
  refine wpAny_richCompare_same_room (op := .Eq) da.typeIs dc.typeIs F.slot_dict_eq (wpAny_call_entry F.slot_dict_eq da.typeIs F.entry_dict_eq ?_ (F.args_dict_eq_2 _ _)) hu
  show wpAny _ _ (Builtin.Dict.dictSlotArgs "__eq__" ⟨[.ref a, .ref c], []⟩ >>= _) _ _ s
  refine wpAny_bind ?_
  unfold Builtin.Dict.dictSlotArgs
  refine wpAny_bind (wpAny_notOrdered_dict da.typeIs (?_ : wpAny _ _ (pure (Value.ref a, Value.ref c)) _ _ s))
  refine wpAny_pure (wpAny_bind (wpAny_isInstance (T := "dict") dc.typeIs F.sub_dict_dict ?_))
  simp only [Bool.not_true, Bool.false_eq_true, if_false]
  refine wpAny_bind (wpAny_pure (wpAny_bind (wpAny_pure (wpAny_bind (same_zero ha hc da dc hz (wpAny_pure ⟨_, rfl, ?_, ?_⟩))))))
  · exact fun x => nomatch x
  · simpa using h
theorem ne_zero_dict (ha : (a == sysModules) = false) (hc : (c == sysModules) = false) (da : s.heap.DictRaw a es ep) (dc : s.heap.DictRaw c fs fp) (hz : fs.size = 0) (hu : A.units < cLine) (h : Q (.bool (!decide (es.size = 0))) s) :
    wpAny (model P w) A (compareOp .NotEq (.ref a) (.ref c)) Q E s := by
  refine wpAny_richCompare_same_room (op := .NotEq) da.typeIs dc.typeIs F.slot_dict_ne (wpAny_call_entry F.slot_dict_ne da.typeIs F.entry_dict_ne ?_ (F.args_dict_ne_2 _ _)) hu
  show wpAny _ _ (Builtin.Dict.dictSlotArgs "__ne__" ⟨[.ref a, .ref c], []⟩ >>= _) _ _ s
  refine wpAny_bind ?_
  unfold Builtin.Dict.dictSlotArgs
  refine wpAny_bind (wpAny_notOrdered_dict da.typeIs (?_ : wpAny _ _ (pure (Value.ref a, Value.ref c)) _ _ s))
  refine wpAny_pure (wpAny_bind (wpAny_isInstance (T := "dict") dc.typeIs F.sub_dict_dict ?_))
  simp only [Bool.not_true, Bool.false_eq_true, if_false]
  refine wpAny_bind (wpAny_pure (wpAny_bind (wpAny_pure (wpAny_bind (same_zero ha hc da dc hz (wpAny_pure ⟨_, rfl, ?_, ?_⟩))))))
  · exact fun x => nomatch x
  · simpa using h
end
section
variable {X : Cx}
def rEqZ : R2 := fun x y H Q => ∃ a c kvs, x = .ref a ∧ y = .ref c ∧ Rd H a (.dT kvs) ∧ Rd H c (.dT []) ∧ Q (.bl (decide (kvs.length = 0))) H
def rNeZ : R2 := fun x y H Q => ∃ a c kvs, x = .ref a ∧ y = .ref c ∧ Rd H a (.dT kvs) ∧ Rd H c (.dT []) ∧ Q (.bl (!decide (kvs.length = 0))) H
theorem raw_of {pins : List (Addr × Obj)} {σ : L2.St} {H : Hp} {s : Shared} {a : Addr} {kvs : List (List Key × V)} (I : Inv X pins σ H s) (h : Rd H a (.dT kvs)) : (a == sysModules) = false ∧ ∃ es ep, s.heap.DictRaw a es ep ∧ es.size = kvs.length := by
  obtain ⟨_, hm, xs, kt, od, es, ep, h1, h2, h3, h4, _⟩ := dt_rd I.hok h
  have l1 : es.size = xs.length := size_of_entries h4
  have l2 : kvs.length = xs.length := Paired.length kt
  exact ⟨hm, es, ep, ⟨od, h1, h2, h3⟩, by omega⟩
theorem op_eqZ (hu : X.A.units < cLine) : OpR X (compareOp .Eq) rEqZ := by
  intro pins s σ H x y v u Q I rx ry h
  obtain ⟨a, c, kvs, rfl, rfl, ha, hc, q⟩ := h
  cases rx
  cases ry
  obtain ⟨ma, es, ep, da, la⟩ := raw_of I ha
  obtain ⟨mc, fs, fp, dc, lc⟩ := raw_of I hc
  refine eq_zero_dict ma mc da dc lc hu ⟨.bl _, H, I, ?_, q⟩
  rw [la] <;> rfl
theorem op_neZ (hu : X.A.units < cLine) : OpR X (compareOp .NotEq) rNeZ := by
  intro pins s σ H x y v u Q I rx ry h
  obtain ⟨a, c, kvs, rfl, rfl, ha, hc, q⟩ := h
  cases rx
  cases ry
  obtain ⟨ma, es, ep, da, la⟩ := raw_of I ha
  obtain ⟨mc, fs, fp, dc, lc⟩ := raw_of I hc
  refine ne_zero_dict ma mc da dc lc hu ⟨.bl _, H, I, ?_, q⟩
  rw [la] <;> rfl
end
end
end SP
set_option Elab.async false
set_option linter.all false
set_option maxRecDepth 100000
/-! Stillpanes, part 4: rules for enumerate over a tuple, min and sorted of data, a call by a value, an own error without arguments. -/
namespace SP
open PySem L2 PySem.Spec PyProof.Rows

/-! ### raise C() -/
section
variable {X : Cx} {C : Addr} {bmB : List Value} {B newId initId : String}
theorem pmk_own0 {x : Str} {p pos : Pos} (F : ExcBaseFacts B newId initId bmB) (q : PySem.W.excIn X.K C bmB newId = true) (gC : X.mg x = some (.ref C)) (kC : PySem.W.keepIn X.K (.ref C) = true) (r : Raises X (.ref C)) (hg : Gl X x)
    (hdb : (x == ("__debug__" : Str)) = false := by decide) : PMk X (.Call (.Name x p) [] [] pos) (fun _ H Q => Q (.ref C) none H) := by
  intro pins s σ H Q I h
  refine wpAny_Call_Name_kw (ld_glob I hg gC ?_ hdb)
  refine PySem.W.callWith_K0 I.kIn kC ?_
  obtain ⟨bm, N, nm, qn, bs, hdct, sn, sub, ab, col, dd, k0, k1, k2, k3, k5, mN, hC, hN, hni, T⟩ := exc_obj I.kIn q
  exact wpAny_call_exc_subT (rest := []) F T hC hN hni fun h' e hm => mk_of I hm r h (I.hok.gone hm.new)
end

/-! ### f(..) where f is a value -/
section
variable {X : Cx} {E : L2.St → XK} {fe e : Expr} {es : List Expr} {tf : TE} {t : TA} {pos : Pos}
/-- the def at f may be called here, by its promise sp -/
def Cal (X : Cx) (E : L2.St → XK) (f : Addr) (sp : Sp) : Prop :=
  ∃ (CX : CXT) (k : Nat) (fd : FuncData) (ps : List Str), FnOk X.prog X.w X.K X.mg X.base CX k f fd ps sp ∧ Room k X.A ∧ PySem.W.keepIn X.K (.ref f) = true ∧ Binds X.K fd ps [] ∧ ∀ σ, PassesAt CX X σ (E σ)
def tCallV (X : Cx) (E : L2.St → XK) (tf : TE) (t : TA) : TE := fun σ H Q => tf σ H fun x H1 => ∃ f sp, x = .ref f ∧ Cal X E f sp ∧ t σ H1 fun vs H2 => sp vs H2 Q (E σ)
theorem pe_callV (hf : PE X fe tf) (ha : PA X (e :: es) t)
    (hev : eval (.Call fe (e :: es) [] pos) X.env = (do callWith pos (← eval fe X.env) [] (backTo pos (starEach (e :: es) X.env)) (backToKw pos (keywordEach [] X.env))) := by rfl)
    (he : starEach (e :: es) X.env = (false, eval e X.env) :: starEach es X.env := by rfl) (hpl : (backTo pos (starEach es X.env)).any (·.1) = false := by rfl) :
    PE X (.Call fe (e :: es) [] pos) (tCallV X E tf t) := by
  refine ⟨fun pins s σ H Q I h => ?_⟩
  refine Call_ (thn (hf.run pins s σ H _ I h) fun u s1 ⟨x, H1, I1, rx, f, sp, ex, ⟨CX, k, fd, ps, F, hr, hk, hb, hx⟩, q1⟩ => ?_) hev
  subst ex
  cases rx
  refine PySem.W.callWith_K (h₀ := X.base) I.ok.mod.kin hk (thn (ha.run pos pins s1 σ H1 _ I1 q1) fun us s2 ⟨vs, H2, I2, r, q2⟩ => ⟨I2.kIn, ?_⟩) he hpl
  exact run_fnS F hr hb (hx σ) I2 r q2
end

/-! ### min, sorted of data -/
section
variable {X : Cx} {pins : List (Addr × Obj)} {σ : L2.St} {H : Hp} {s : Shared}
def bestD (ds : List PyData) : Nat := argBest (fun i j => PySem.W.dataLt (ds.getD i .none) (ds.getD j .none)) (ds.length - 1)
def rMinD (K : PySem.W.Frag) : List V → Hp → VK → Prop := fun vs H Q => ∃ (a : Addr) (xs : List V) (ds : List PyData), vs = [.ref a] ∧ SqL K H a xs ∧ DpAll K H xs ds ∧ PySem.W.AlikeAll ds ∧ 0 < ds.length ∧ PyData.depthAll ds ≤ 20 ∧ ∀ v, xs[bestD ds]? = some v → Q v H
theorem cr_minD (hc : X.calm = true) (hu : X.A.units + 64 < cLine) : CallR X (.builtin "min") (rMinD X.K) := by
  intro pins s σ H xs us Q I r h
  obtain ⟨a, ys, ds, rfl, ha, hd, hal, h0, hdp, q⟩ := h
  obtain ⟨u, rfl, rx⟩ := vals1 r
  cases rx
  obtain ⟨its, rv, pl, hz⟩ := I.list ha
  obtain ⟨as, rd⟩ := Dp.readsAll I ds ys its hd rv
  have hn : its.toArray.size = ds.length := PySem.W.readsAll_len (by simpa using rd)
  refine call_min_walkH (PySem.W.iter_listW (A := X.A.in1) (I.ok.hd hc) pl.isList fun s2 e W st hfp hw hk => ?_)
  refine ⟨_, _, _, _, _, _, _, s.heap, _, rfl, W, st, hfp, by omega, hw, hk, PySem.W.cmpIn_lt (A := X.A.in1) (xs := ds) (as := as) (by simpa using rd) hal (by show X.A.units + 1 + _ < _; omega), fun v s' hP m => ?_⟩
  obtain ⟨h', tk, rfl, hk2⟩ := PySem.W.moved_old e rfl m
  rw [hn] at hP
  have hP2 : its[bestD ds]? = some v := by simpa [bestD] using hP
  have hb : bestD ds < ys.length := by
    rw [rv.length]
    exact (List.getElem?_eq_some_iff.mp hP2).1
  obtain ⟨w1, e1, r1⟩ := rv.get (List.getElem?_eq_getElem hb)
  rw [hP2] at e1
  cases e1
  exact ⟨_, H, I.kept (t' := tk) hk2, r1, q _ (List.getElem?_eq_getElem hb)⟩
def rSortD (K : PySem.W.Frag) : List V → Hp → VK → Prop := fun vs H Q => ∃ (a : Addr) (xs : List V) (ds : List PyData), vs = [.ref a] ∧ SqL K H a xs ∧ DpAll K H xs ds ∧ xs.length = ds.length ∧ PySem.W.AllAlike ds ∧ PySem.W.Sortable ds ∧ (∀ d ∈ ds, d.depth ≤ 20) ∧
  ∀ p, H p = none → Q (.ref p) (upd H p (.lst (((xs.zip ds).mergeSort (PySem.W.dataLe false (·.2))).map (·.1))))
theorem each_zip : ∀ {vs : List V} {us : List Value} {ds : List PyData}, Vals vs us → vs.length = ds.length → PySem.W.EachIs (fun u (p : V × PyData) => RelV p.1 u) us (vs.zip ds)
  | _, _, _, .nil, _ => .nil
  | _, _, [], .cons _ _, e => by simp at e
  | _, _, d :: ds, .cons h t, e => .cons h (each_zip t (by simpa using e))
theorem each_reads : ∀ {h : Heap} {vs : List V} {us : List Value} {ds : List PyData} {as : List Addr}, vs.length = ds.length → ReadsAll h us ds as → PySem.W.EachIs (fun u (p : V × PyData) => ∃ as, Reads h u p.2 as) us (vs.zip ds)
  | _, [], _, [], _, _, r => by
    cases r
    exact .nil
  | _, v :: vs, _, d :: ds, _, e, r => by
    cases r with
    | cons h1 h2 => exact .cons ⟨_, h1⟩ (each_reads (by simpa using e) h2)
  | _, [], _, _ :: _, _, e, _ => by simp at e
  | _, _ :: _, _, [], _, e, _ => by simp at e
theorem each_vals : ∀ {us : List Value} {ps : List (V × PyData)}, PySem.W.EachIs (fun u (p : V × PyData) => RelV p.1 u) us ps → Vals (ps.map (·.1)) us
  | _, _, .nil => .nil
  | _, _, .cons h t => .cons h (each_vals t)
theorem cr_sortD (hc : X.calm = true) (hu : X.A.units + 64 < cLine) : CallR X (.builtin "sorted") (rSortD X.K) := by
  intro pins s σ H xs us Q I r h
  obtain ⟨a, ys, ds, rfl, ha, hd, hl, hal, hso, hdp, q⟩ := h
  obtain ⟨u, rfl, rx⟩ := vals1 r
  cases rx
  obtain ⟨its, rv, pl, hz⟩ := I.list ha
  obtain ⟨as, rd⟩ := Dp.readsAll I ds ys its hd rv
  have hlz : (ys.zip ds).length = ys.length := by rw [List.length_zip]; omega
  have hz2 : (ys.zip ds).map (·.2) = ds := by rw [List.map_snd_zip]; omega
  refine PySem.W.sorted_data (enc := fun p : V × PyData => p.2) pl.isList (each_zip rv hl) (each_reads hl rd) (by rw [hz2]; exact hal) (by rw [hz2]; exact hso) (by rw [hlz]; exact hz) (fun b hb => ?_) fun out ho ev => ?_
  · have := hdp b.2 (by rw [← hz2]; exact List.mem_map_of_mem hb)
    omega
  obtain ⟨e, he⟩ := sortedAll_at s.heap its (List.toArray out)
  have hn : H (s.heap.objs.size + 1) = none := I.hok.fresh (by omega)
  have new : ObjOk X.prog X.w (upd H (s.heap.objs.size + 1) (.lst (((ys.zip ds).mergeSort (PySem.W.dataLe false (·.2))).map (·.1)))) (sortedAll s.heap its (List.toArray out)) (s.heap.objs.size + 1) (.lst (((ys.zip ds).mergeSort (PySem.W.dataLe false (·.2))).map (·.1))) :=
    ⟨by rw [List.length_map, List.length_mergeSort, hlz]; exact hz, out, e, each_vals ev, he⟩
  exact ⟨.ref (s.heap.objs.size + 1), _, I.laid (t' := s.toks) (fun b u z => sortedAll_old z) (by omega) new, rfl, q _ hn⟩
end
end SP
set_option Elab.async false
set_option linter.all false
set_option maxRecDepth 100000
set_option maxHeartbeats 1000000
/-! Stillpanes, part 5: enumerate over a tuple, enumerate over zip of two tuples. -/
namespace SP
open PySem L2 PySem.Spec PyProof.Rows
open PySem.Sem (wp)

section
variable {prog : Program} {w : World} {A : Around} {E : Value → Shared → Prop} {s : Shared}
theorem enumG_next {e it : Addr} {i : Nat} {old : Value} {P : Value → Heap → Prop} {ch : List Addr} {Q : Value → Shared → Prop} (he : IsEnum s.heap e it i old) (hne : e ∉ ch)
    (step : ∀ (Q : Value → Shared → Prop), (∀ x h' tk, P x h' → s.heap.objs.size ≤ h'.objs.size → (∀ b o, b ∉ ch → s.heap.get? b = some o → h'.get? b = some o) → Q x { s with heap := h', toks := tk }) → wpAny (model prog w) A (Builtin.SmallTypes.nextOf (.ref it)) Q E s)
    (frame : ∀ x h h', P x h → (∀ b o, b ≠ e → h.get? b = some o → h'.get? b = some o) → P x h')
    (hQ : ∀ x h' tk T, P x h' → IsEnumOut h' e it ((i : Int) + 1) x T → h'.get? T = some { cls := .type "tuple", data := .seq #[.int i tk, x] } → s.heap.objs.size ≤ T → (∃ h1, P x h1 ∧ h1.objs.size ≤ T) →
      (∀ b o, b ≠ e → b ∉ ch → s.heap.get? b = some o → h'.get? b = some o) → Q (.ref T) { s with heap := h', toks := tk + 1 }) :
    wpAny (model prog w) A (Builtin.«enumerate.__next__» ⟨[.ref e], []⟩) (fun fin s' => ∃ v, fin = .done (.ret v) ∧ Q v s') E s := by
  obtain ⟨hp, g, d, tk₀, os⟩ := s
  show wpAny _ _ (field (.ref e) 2 >>= _) _ _ _
  refine wpAny_bind (wpAny_field he rfl (x := .ref it) rfl ?_)
  refine wpAny_bind (step _ fun x h₁ tk hPx hz₁ hk₁ => ?_)
  have he₁ : IsEnum h₁ e it i old := hk₁ _ _ hne he
  show wpAny _ _ (field (.ref e) 3 >>= _) _ _ ⟨h₁, g, d, tk, os⟩
  refine wpAny_bind (wpAny_field he₁ rfl (x := rawInt i) rfl ?_)
  show wpAny _ _ (field (.ref e) 4 >>= _) _ _ ⟨h₁, g, d, tk, os⟩
  refine wpAny_bind (wpAny_field he₁ rfl (x := .none) rfl ?_)
  show wpAny _ _ (mkInt i >>= _) _ _ ⟨h₁, g, d, tk, os⟩
  refine wpAny_bind (wpAny_mkInt ?_)
  show wpAny _ _ (setField (.ref e) 3 (rawInt ((i : Int) + 1)) >>= _) _ _ ⟨h₁, g, d, tk + 1, os⟩
  refine wpAny_bind (wpAny_setField_rec he₁ (by simp) fun h₂ he₂ hs₂ => ?_)
  replace hs₂ : Heap.SameBut e h₁ h₂ := hs₂
  replace he₂ : IsEnum h₂ e it ((i : Int) + 1) old := he₂
  show wpAny _ _ (setField (.ref e) 4 .none >>= _) _ _ ⟨h₂, g, d, tk + 1, os⟩
  refine wpAny_bind (wpAny_setField_rec he₂ (by simp) fun h₃ he₃ hs₃ => ?_)
  replace hs₃ : Heap.SameBut e h₂ h₃ := hs₃
  replace he₃ : IsEnum h₃ e it ((i : Int) + 1) old := he₃
  show wpAny _ _ (newTuple [.int i tk, x] >>= _) _ _ ⟨h₃, g, d, tk + 1, os⟩
  refine wpAny_bind (wpAny_newTuple ?_)
  have he₄ : IsEnum (h₃.push { cls := .type "tuple", data := .seq #[.int i tk, x] }) e it ((i : Int) + 1) old := Heap.get?_push_of_some _ he₃
  have ht₄ : (h₃.push { cls := .type "tuple", data := .seq #[.int i tk, x] }).get? h₃.objs.size = some { cls := .type "tuple", data := .seq #[.int i tk, x] } := Heap.get?_push_size _ rfl
  have hk₄ : ∀ b o, b ≠ e → h₁.get? b = some o → (h₃.push { cls := .type "tuple", data := .seq #[.int i tk, x] }).get? b = some o := fun b o hbe hb =>
    Heap.get?_push_of_some _ (hs₃.extBut b o hbe (hs₂.extBut b o hbe hb))
  have hT : hp.objs.size ≤ h₃.objs.size := by rw [hs₃.1, hs₂.1]; exact hz₁
  have hT2 : h₁.objs.size ≤ h₃.objs.size := by rw [hs₃.1, hs₂.1]; exact Nat.le_refl _
  have hel : e < h₃.objs.size := Heap.lt_size he₃
  generalize hh₄ : h₃.push { cls := .type "tuple", data := .seq #[.int i tk, x] } = h₄ at he₄ ht₄ hk₄
  generalize hT' : h₃.objs.size = T at ht₄ hT hel hT2
  show wpAny _ _ (Builtin.SmallTypes.ownedTupleIsFree (.ref e) >>= _) _ _ ⟨h₄, g, d, tk + 1, os⟩
  refine wpAny_bind ?_
  unfold Builtin.SmallTypes.ownedTupleIsFree
  refine wpAny_bind (wpAny_field he₄ rfl (x := .none) rfl (wpAny_pure ?_))
  simp only [if_true]
  refine wpAny_bind (wpAny_rule ?_)
  refine wpAny_bind (wpAny_field he₄ rfl (x := old) rfl ?_)
  refine wpAny_bind (wpAny_setField_rec he₄ (by simp) fun h₅ he₅ hs₅ => ?_)
  replace hs₅ : Heap.SameBut e h₄ h₅ := hs₅
  replace he₅ : IsEnum h₅ e it ((i : Int) + 1) x := he₅
  show wpAny _ _ (Builtin.SmallTypes.ownedTupleHandOut (.ref e) (.ref T) >>= _) _ _ ⟨h₅, g, d, tk + 1, os⟩
  refine wpAny_bind ?_
  unfold Builtin.SmallTypes.ownedTupleHandOut
  refine wpAny_bind (wpAny_setField_rec he₅ (by simp) fun h₆ he₆ hs₆ => ?_)
  replace hs₆ : Heap.SameBut e h₅ h₆ := hs₆
  replace he₆ : IsEnumOut h₆ e it ((i : Int) + 1) x T := he₆
  refine wpAny_setField_rec he₆ (by simp) fun h₇ he₇ hs₇ => ?_
  replace hs₇ : Heap.SameBut e h₆ h₇ := hs₇
  replace he₇ : IsEnumOut h₇ e it ((i : Int) + 1) x T := he₇
  have up : ∀ b o, b ≠ e → h₄.get? b = some o → h₇.get? b = some o := fun b o hbe hb => hs₇.extBut b o hbe (hs₆.extBut b o hbe (hs₅.extBut b o hbe hb))
  refine wpAny_bind (wpAny_letGo (wpAny_pure ⟨_, rfl, hQ x h₇ tk T (frame _ _ _ hPx fun b o hbe hb => up b o hbe (hk₄ b o hbe hb)) he₇ (up _ _ (Nat.ne_of_gt hel) ht₄) hT ⟨h₁, hPx, hT2⟩ fun b o hbe hbi hb => up b o hbe (hk₄ b o hbe (hk₁ b o hbi hb))⟩))

theorem enumG_item {e it : Addr} {i : Nat} {old : Value} {P : Value → Heap → Prop} {ch : List Addr} {Q : Option Value → Shared → Prop} (he : IsEnum s.heap e it i old) (hne : e ∉ ch)
    (step : ∀ (Q : Value → Shared → Prop) (E : Value → Shared → Prop), (∀ x h' tk, P x h' → s.heap.objs.size ≤ h'.objs.size → (∀ b o, b ∉ ch → s.heap.get? b = some o → h'.get? b = some o) → Q x { s with heap := h', toks := tk }) → wpAny (model prog w) A.in1 (Builtin.SmallTypes.nextOf (.ref it)) Q E s)
    (frame : ∀ x h h', P x h → (∀ b o, b ≠ e → h.get? b = some o → h'.get? b = some o) → P x h')
    (hQ : ∀ x h' tk T, P x h' → IsEnumOut h' e it ((i : Int) + 1) x T → h'.get? T = some { cls := .type "tuple", data := .seq #[.int i tk, x] } → s.heap.objs.size ≤ T → (∃ h1, P x h1 ∧ h1.objs.size ≤ T) →
      (∀ b o, b ≠ e → b ∉ ch → s.heap.get? b = some o → h'.get? b = some o) → Q (some (.ref T)) { s with heap := h', toks := tk + 1 }) :
    wpAny (model prog w) A (pyNext (.ref e)) Q E s := by
  have hT : s.TypeIs (.ref e) "enumerate" := ⟨_, he, rfl⟩
  unfold pyNext
  exact wpAny_bind (wpAny_attempt (wpAny_callSpecial?_slot (name := Str.ofString "__next__") hT F.slot_enumerate_next
    (wpAny_call_entry F.slot_enumerate_next hT F.entry_enumerate_next
      (enumG_next he hne (fun Q q => step Q _ q) frame fun x h' tk T a b c d f k => wpAny_pure (hQ x h' tk T a b c d f k)) (F.args_enumerate_next_1 _))))
theorem enumG_end {e it : Addr} {i : Int} {old : Value} {Q : Option Value → Shared → Prop} {φ : Heap → Prop} (he : IsEnum s.heap e it i old)
    (stop : ∀ (Q : Value → Shared → Prop) (E : Value → Shared → Prop), (∀ h' e, φ h' → (∃ o, h'.get? e = some o ∧ o.cls = .type "StopIteration") → E (.ref e) { s with heap := h' }) → wpAny (model prog w) A.in1 (Builtin.SmallTypes.nextOf (.ref it)) Q E s)
    (hQ : ∀ h', φ h' → Q none { s with heap := h' }) : wpAny (model prog w) A (pyNext (.ref e)) Q E s := by
  have hT : s.TypeIs (.ref e) "enumerate" := ⟨_, he, rfl⟩
  unfold pyNext
  refine wpAny_bind (wpAny_attempt (wpAny_callSpecial?_slot (name := Str.ofString "__next__") hT F.slot_enumerate_next
    (wpAny_call_entry F.slot_enumerate_next hT F.entry_enumerate_next ?_ (F.args_enumerate_next_1 _))))
  show wpAny _ _ (field (.ref e) 2 >>= _) _ _ _
  refine wpAny_bind (wpAny_field he rfl (x := .ref it) rfl ?_)
  refine wpAny_bind (stop _ _ fun h' x he' hx' => ?_)
  obtain ⟨o, ho, hc⟩ := hx'
  refine wpAny_bind (wpAny_isInstance (T := "StopIteration") (b := true) ⟨o, ho, hc⟩ isSubtype_stop ?_)
  exact wpAny_pure (hQ _ he')

/-! enumerate(v) begins -/
theorem meets_enumNew {v : Value} {o : Obj} {H : Heap → Prop} (B : Begins v o H) :
    Meets (Builtin.«enumerate.__new__» ⟨[.type "enumerate", v], []⟩) (fun _ R s => H s.heap ∧
      R (.ok (.ret (.ref (s.heap.push o).objs.size))) { s with heap := (s.heap.push o).push { cls := .type "enumerate", data := .fields #[.none, .bool false, .ref s.heap.objs.size, rawInt 0, .none, .none] } }) :=
  .of_wp fun prog w A R s h => by
    obtain ⟨hp, g, d, tk, os⟩ := s; obtain ⟨h1, h⟩ := h
    have hsub := sub_enumerate
    have q1 : ∀ {A' : Around} {E : Value → Shared → Prop} {Q : Value → Shared → Prop}, Q (.ref hp.objs.size) ⟨hp.push o, g, d, tk, os⟩ → wpAny (model prog w) A' (pyIter v) Q E ⟨hp, g, d, tk, os⟩ :=
      fun q => B.iter prog w _ _ ⟨hp, g, d, tk, os⟩ _ h1 q
    wp_walk using q1
    refine wpAny_stack_any fun st => wpAny_pure ?_
    split
    · rename_i c _ _ _ _ _
      cases (c == Value.type "enumerate")
      · wp_walk using q1
        exact ⟨_, rfl, h⟩
      · wp_walk using q1
        exact ⟨_, rfl, h⟩
    · wp_walk using q1
      exact ⟨_, rfl, h⟩
theorem meets_enumZip {z TI TO : Addr} {u : Value} :
    Meets (Builtin.«enumerate.__new__» ⟨[.type "enumerate", .ref z], []⟩) (fun _ R s => IsZip s.heap z TI TO u ∧
      R (.ok (.ret (.ref s.heap.objs.size))) { s with heap := s.heap.push { cls := .type "enumerate", data := .fields #[.none, .bool false, .ref z, rawInt 0, .none, .none] } }) :=
  .of_wp fun prog w A R s h => by
    obtain ⟨hp, g, d, tk, os⟩ := s; obtain ⟨h1, h⟩ := h
    have hsub := sub_enumerate
    have q1 : ∀ {A' : Around} {E : Value → Shared → Prop} {Q : Value → Shared → Prop}, Q (.ref z) ⟨hp, g, d, tk, os⟩ → wpAny (model prog w) A' (pyIter (.ref z)) Q E ⟨hp, g, d, tk, os⟩ :=
      fun q => wpAny_pyIter_zip h1 q
    wp_walk using q1
    refine wpAny_stack_any fun st => wpAny_pure ?_
    split
    · rename_i c _ _ _ _ _
      cases (c == Value.type "enumerate")
      · wp_walk using q1
        exact ⟨_, rfl, h⟩
      · wp_walk using q1
        exact ⟨_, rfl, h⟩
    · wp_walk using q1
      exact ⟨_, rfl, h⟩
theorem call_enumT {t : Addr} {items : Array Value} {Q : Value → Shared → Prop} (ht : s.heap.IsTuple t items)
    (h : ∀ h', IsEnum h' (s.heap.objs.size + 1) s.heap.objs.size 0 .none → h'.IsTupleIter s.heap.objs.size t 0 → (∀ b o, s.heap.get? b = some o → h'.get? b = some o) → Q (.ref (s.heap.objs.size + 1)) { s with heap := h' }) :
    wpAny (model prog w) A (call (.type "enumerate") [.ref t]) Q E s := by
  refine callType_new F.called_enumerate (by decide) (F.typeCall_enumerate_1 _) (F.newCall_enumerate_1 _) (fun obj => F.args_object_init_2 obj _) F.entry_enumerate_new
    (meets_enumNew (begins_tuple t items)) ⟨ht, ?_⟩
  have hz : (s.heap.push { cls := .type "tuple_iterator", data := .fields #[.ref t, .int 0 0] }).objs.size = s.heap.objs.size + 1 := Heap.size_push ..
  have he := Heap.get?_push_size (s.heap.push { cls := .type "tuple_iterator", data := .fields #[.ref t, .int 0 0] }) (o := { cls := .type "enumerate", data := .fields #[.none, .bool false, .ref s.heap.objs.size, rawInt 0, .none, .none] }) rfl
  rw [hz] at he
  show _ ∧ _
  rw [hz]
  exact ⟨⟨_, he, rfl⟩, h _ he ⟨_, Heap.get?_push_of_some _ (Heap.get?_push_size _ rfl), rfl, rfl⟩ fun b o x => Heap.get?_push_of_some _ (Heap.get?_push_of_some _ x)⟩
theorem call_enumZ {z TI TO : Addr} {u : Value} {Q : Value → Shared → Prop} (ht : IsZip s.heap z TI TO u)
    (h : ∀ h', IsEnum h' s.heap.objs.size z 0 .none → (∀ b o, s.heap.get? b = some o → h'.get? b = some o) → Q (.ref s.heap.objs.size) { s with heap := h' }) :
    wpAny (model prog w) A (call (.type "enumerate") [.ref z]) Q E s := by
  refine callType_new F.called_enumerate (by decide) (F.typeCall_enumerate_1 _) (F.newCall_enumerate_1 _) (fun obj => F.args_object_init_2 obj _) F.entry_enumerate_new
    (meets_enumZip (TI := TI) (TO := TO) (u := u)) ⟨ht, ?_⟩
  have he := Heap.get?_push_size s.heap (o := { cls := .type "enumerate", data := .fields #[.none, .bool false, .ref z, rawInt 0, .none, .none] }) rfl
  exact ⟨⟨_, he, rfl⟩, h _ he fun b o x => Heap.get?_push_of_some _ x⟩
end

/-! ### enumerate(tuple) -/
def IteT (K : PySem.W.Frag) (a : Addr) : It :=
  ⟨fun i H => ∃ (xs : List V) (x : V), SqT K H a xs ∧ xs[i]? = some x, fun i H v H' => ∃ T x, v = .ref T ∧ H T = none ∧ H' = upd H T (.tup [.int (i : Nat), x]) ∧ ∀ xs, SqT K H a xs → xs[i]? = some x, fun i H => ∃ xs : List V, SqT K H a xs ∧ xs.length ≤ i⟩
theorem turn_enumT {P : Program} {w : World} {K : PySem.W.Frag} {elts : List Expr} {kk : Nat} {tpos : Pos} (a e it : Addr) :
    Turn P w K (.Tuple elts kk tpos) (IteT K a) [e, it] e (fun i h => (∃ old, IsEnum h e it ((i : Nat) : Int) old) ∧ h.IsTupleIter it a i ∧ e ≠ it) where
  mem := by simp
  obj := fun i h st b hb => by
    obtain ⟨⟨old, he⟩, ⟨o, ho, hc, hd⟩, _⟩ := st
    have e' : b = e ∨ b = it := by simpa using hb
    rcases e' with z | z
    · rw [z]; exact ⟨_, he, fun v q => nomatch q⟩
    · rw [z]; exact ⟨o, ho, fun v q => by rw [hd] at q; cases q⟩
  keep := fun i h h' st k => let ⟨⟨old, he⟩, hi, hne⟩ := st; ⟨⟨old, k e (by simp) _ he⟩, hi.at fun o q => k it (by simp) o q, hne⟩
  item := by
    intro X hP hw hK hc i pins s σ H E I hf st hg
    subst hP hw hK
    obtain ⟨⟨old, he⟩, hit, hne⟩ := st
    obtain ⟨xs, x, hq, hx⟩ := hg
    obtain ⟨its, rv, p, hz⟩ := I.tuple hq
    obtain ⟨u, hu, ru⟩ := rv.get hx
    have hel : e < s.heap.objs.size := Heap.lt_size he
    have hil : it < s.heap.objs.size := by obtain ⟨_, q, _⟩ := hit; exact Heap.lt_size q
    have hu' : its.toArray[i]? = some u := by simpa using hu
    refine enumG_item (P := fun y h' => y = u ∧ h'.IsTupleIter it a (i + 1)) (ch := [it]) he (by simpa using hne) (fun Q E q => RZ.nextOf_tuple_item hit p hu' fun h' st' sb => q u h' s.toks ⟨rfl, st'⟩ (by rw [sb.1]; exact Nat.le_refl _) fun b o hb z => (sb.2 b (by simpa using hb)).trans z)
      (fun y h h' ⟨y1, y2⟩ k => ⟨y1, y2.at fun o q => k it o (Ne.symm hne) q⟩) fun y h' tk T ⟨hy, hit'⟩ ho hT hsz _ hk => ?_
    subst hy
    refine ⟨_, rfl, wpAny_letOwnedTupleGo_enum (s := { s with heap := h', toks := tk + 1 }) ho fun h'' he' sb => ?_⟩
    have hTe : T ≠ e := fun z => Nat.lt_irrefl _ (Nat.lt_of_lt_of_le hel (z ▸ hsz))
    have hT2 : h''.get? T = some { cls := .type "tuple", data := .seq #[.int i tk, y] } := (sb.2 _ hTe).trans hT
    have new : ObjOk X.prog X.w (upd H T (.tup [.int (i : Nat), x])) h'' T (.tup [.int (i : Nat), x]) :=
      ⟨by show 2 ≤ sizeLine; decide, [.int i tk, y], .cons ⟨_, rfl⟩ (.cons ru .nil), ⟨_, hT2, rfl, _, rfl⟩⟩
    have I1 : Inv X pins σ (upd H T (.tup [.int (i : Nat), x])) { s with heap := h'', toks := tk + 1 } :=
      I.turnedNew (ch := [e, it]) (fun b ob hb q => (sb.2 b (fun z => hb (by simp [z]))).trans (hk b ob (fun z => hb (by simp [z])) (fun z => hb (by simpa using Or.inr (by simpa using z))) q)) hf hsz new
    refine ⟨.ref T, _, I1, rfl, ⟨_, x, rfl, I.hok.fresh hsz, rfl, fun ys hy => by rw [I.tuple_inj hy hq]; exact hx⟩, ⟨⟨y, ?_⟩, hit'.at fun o q => (sb.2 it (Ne.symm hne)).trans q, hne⟩, fun b hb => ?_⟩
    · have e1 : ((i + 1 : Nat) : Int) = (i : Int) + 1 := by omega
      rw [e1]; exact he'
    · have hb' : b < s.heap.objs.size := by
        have e' : b = e ∨ b = it := by simpa using hb
        rcases e' with z | z
        · rw [z]; exact hel
        · rw [z]; exact hil
      rw [upd_ne (Nat.ne_of_lt (Nat.lt_of_lt_of_le hb' hsz))]
      exact (hf b hb).1
  done := by
    intro X hP hw hK hc i pins s σ H E I hf st hg
    subst hP hw hK
    obtain ⟨⟨old, he⟩, hit, hne⟩ := st
    obtain ⟨xs, hq, hx⟩ := hg
    obtain ⟨its, rv, p, hz⟩ := I.tuple hq
    obtain ⟨f0, f1, f2, f3, f4, f5⟩ := hf it (by simp)
    have hl := rv.length
    exact enumG_end (φ := fun h' => Heap.ExtBut it s.heap h') he (fun Q E q => RZ.nextOf_tuple_end (A := X.A.in1) (I.ok.hd hc) hit p (by simp; omega) fun h' e' eb ho => q h' e' eb ho) fun h' eb => ⟨rfl, I.turned (t' := s.toks) (fun b o hb q => eb b o hb q) f0 f1 f3 f4 f5⟩
  self := fun A i s Q E st h => let ⟨⟨_, he⟩, _⟩ := st; wpAny_pyIter_enum he h
def iEnumT (K : PySem.W.Frag) (ta : TA) : TI := fun σ H R => ta σ H fun vs H1 => ∃ a xs, vs = [.ref a] ∧ SqT K H1 a xs ∧ R (IteT K a) H1
theorem pi_enumT {X : Cx} {e : Expr} {ta : TA} {p pos tpos : Pos} {elts : List Expr} {kk : Nat} (hg : Gl X "enumerate") (hm : X.mg "enumerate" = none) (ha : PA X [e] ta) (hs : starEach [e] X.env = [(false, eval e X.env)] := by rfl) :
    PI X (.Tuple elts kk tpos) (.Call (.Name "enumerate" p) [e] [] pos) (iEnumT X.K ta) := by
  refine ⟨fun pins s σ H R I h => ?_⟩
  refine Call_ (ld_blt I hg hm boot_enumerate (PyProof.Rows.callWith_type1 (thn (ha.run pos pins s σ H _ I h) fun us s1 ⟨vs, H1, I1, r1, q1⟩ => ?_) hs rfl))
  obtain ⟨a, xs, ex, hq, q⟩ := q1
  subst ex
  obtain ⟨u, rfl, r⟩ := vals1 r1
  cases r
  obtain ⟨its, rv, p', hz⟩ := I1.tuple hq
  refine call_enumT (show s1.heap.IsTuple a its.toArray from p') fun h' he hit hk => wpAny_pyIter_enum he ?_
  have I2 : Inv X pins σ H1 { s1 with heap := h' } := I1.kept (t' := s1.toks) hk
  refine ⟨s1.heap.objs.size + 1, [s1.heap.objs.size + 1, s1.heap.objs.size], _, _, H1, rfl, I2, turn_enumT a (s1.heap.objs.size + 1) s1.heap.objs.size, ⟨⟨.none, he⟩, hit, Nat.succ_ne_self _⟩, fun b hb => ?_, q⟩
  have e' : b = s1.heap.objs.size + 1 ∨ b = s1.heap.objs.size := by simpa using hb
  have hle : s1.heap.objs.size ≤ b := by
    rcases e' with z | z
    · rw [z]; exact Nat.le_add_right _ _
    · rw [z]; exact Nat.le_refl _
  exact I1.fpOk hle (I1.hok.fresh hle)
end SP
set_option Elab.async false
set_option linter.all false
set_option maxRecDepth 100000
set_option maxHeartbeats 1000000
/-! Stillpanes, part 6: enumerate over zip of two tuples. -/
namespace SP
open PySem L2 PySem.Spec PyProof.Rows
open PySem.Sem (wp)

/-- a zip, whatever it gave out before -/
def ZF (h : Heap) (z TI TO : Addr) (u : Value) (f : Bool) : Prop := h.get? z = some { cls := .type "zip", dict := none, data := .fields #[u, .bool f, .bool false, .ref TI, .ref TO], slots := #[] }
def Zst (h : Heap) (z TI TO : Addr) : Prop := ∃ u f, (u = .none ∨ ∃ T : Nat, u = rawInt T) ∧ ZF h z TI TO u f
section
variable {prog : Program} {w : World} {A : Around} {E : Value → Shared → Prop} {s : Shared}
theorem zst_free {z TI TO : Addr} {Q : Bool → Shared → Prop} (hz : Zst s.heap z TI TO) (h : ∀ b h', Zst h' z TI TO → Heap.SameBut z s.heap h' → Q b { s with heap := h' }) : wpAny (model prog w) A (Builtin.SmallTypes.ownedTupleIsFree (.ref z)) Q E s := by
  obtain ⟨u, f, hu, hz⟩ := hz
  unfold ZF at hz
  unfold Builtin.SmallTypes.ownedTupleIsFree
  refine wpAny_bind (wpAny_field hz rfl (x := u) rfl ?_)
  rcases hu with rfl | ⟨T, rfl⟩
  · exact wpAny_pure (h true s.heap ⟨_, f, .inl rfl, hz⟩ (Heap.SameBut.refl _ _))
  · show wpAny _ _ (loadIfAlive ((T : Int).toNat) >>= _) _ _ _
    rw [Int.toNat_natCast]
    refine wpAny_bind ?_
    have main : wpAny (model prog w) A (if (s.heap.get? T).isNone = true then pure true else (do
        if (← field (.ref z) 1) != .bool true then setField (.ref z) 1 (.bool true)
        return false)) Q E s := by
      cases e : s.heap.get? T with
      | none =>
        simp only [Option.isNone_none, if_true]
        exact wpAny_pure (h true s.heap ⟨_, f, .inr ⟨T, rfl⟩, hz⟩ (Heap.SameBut.refl _ _))
      | some o =>
        simp only [Option.isNone_some, Bool.false_eq_true, if_false]
        refine wpAny_bind (wpAny_field hz rfl (x := .bool f) rfl ?_)
        cases f with
        | true =>
          rw [if_neg (show ¬ ((Value.bool true != Value.bool true) = true) from Bool.false_ne_true)]
          exact wpAny_pure (h false s.heap ⟨_, true, .inr ⟨T, rfl⟩, hz⟩ (Heap.SameBut.refl _ _))
        | false =>
          rw [if_pos (show (Value.bool false != Value.bool true) = true from rfl)]
          exact wpAny_bind (wpAny_setField_rec hz (by simp) fun h₁ hz₁ hs₁ => wpAny_pure (h false h₁ ⟨_, true, .inr ⟨T, rfl⟩, hz₁⟩ hs₁))
    exact fun _ _ _ => main
theorem zipA_next {z TI TO i1 i2 l1 l2 : Addr} {k1 k2 : Nat} {xs ys : Array Value} {x y : Value} {Q : Value → Shared → Prop} (D : ZipApart z TI TO i1 i2 l1 l2)
    (hz : Zst s.heap z TI TO) (hTI : IsPair s.heap TI (.ref i1) (.ref i2)) (hTO : ∃ a b, IsPair s.heap TO a b)
    (h1 : s.heap.IsTupleIter i1 l1 k1) (h2 : s.heap.IsTupleIter i2 l2 k2) (hl1 : s.heap.IsTuple l1 xs) (hl2 : s.heap.IsTuple l2 ys) (hx : xs[k1]? = some x) (hy : ys[k2]? = some y)
    (hQ : ∀ h', Zst h' z TI TO → (∃ a b, IsPair h' TO a b) → h'.IsTupleIter i1 l1 (k1 + 1) → h'.IsTupleIter i2 l2 (k2 + 1) → IsPair h' s.heap.objs.size x y → h'.objs.size = s.heap.objs.size + 1 →
      (∀ c o, c ≠ z → c ≠ TO → c ≠ i1 → c ≠ i2 → s.heap.get? c = some o → h'.get? c = some o) → Q (.ref s.heap.objs.size) { s with heap := h' }) :
    wpAny (model prog w) A (Builtin.«zip.__next__» ⟨[.ref z], []⟩) (fun fin s' => ∃ v, fin = .done (.ret v) ∧ Q v s') E s := by
  obtain ⟨a, b, hTO⟩ := hTO
  obtain ⟨u, f, hu, hzz⟩ := id hz
  unfold ZF at hzz
  show wpAny _ _ (field (.ref z) 2 >>= _) _ _ _
  refine wpAny_bind (wpAny_field hzz rfl (x := .bool false) rfl ?_)
  show wpAny _ _ (field (.ref z) 3 >>= _) _ _ _
  refine wpAny_bind (wpAny_field hzz rfl (x := .ref TI) rfl ?_)
  refine wpAny_bind (wpAny_seqItems hTI rfl ?_)
  show wpAny _ _ (Builtin.SmallTypes.ownedTupleIsFree (.ref z) >>= _) _ _ _
  refine wpAny_bind (zst_free hz fun b0 h₀ hz₀ hs₀ => ?_)
  obtain ⟨u0, f0, hu0, hzz0⟩ := id hz₀
  unfold ZF at hzz0
  have hTO₀ : IsPair h₀ TO a b := hs₀.extBut _ _ D.TOz hTO
  cases b0 with
  | true =>
    simp only [if_true]
    refine wpAny_bind (wpAny_rule ?_)
    refine wpAny_bind (wpAny_field hzz0 rfl (x := .ref TO) rfl ?_)
    refine wpAny_bind (wpAny_setField_rec hzz0 (by simp) fun h₁ hz₁ hs₁' => ?_)
    have hs₁ : Heap.SameBut z s.heap h₁ := ⟨hs₁'.1.trans hs₀.1, fun b hb => (hs₁'.2 b hb).trans (hs₀.2 b hb)⟩
    replace hz₁ : ZF h₁ z TI TO .ellipsis f0 := hz₁
    refine wpAny_bind ?_
    simp only [List.zipIdx_cons, List.zipIdx_nil, List.forIn_cons, List.forIn_nil]
    refine wpAny_bind (wpAny_bind (wpAny_onRaise ?_))
    show wpAny _ _ (Builtin.SmallTypes.nextOf (.ref i1) >>= _) _ _ _
    refine wpAny_bind (RZ.nextOf_tuple_item (h1.extBut hs₁.extBut D.i1z) (hl1.extBut hs₁.extBut D.l1z) hx fun h₂ h1₂ hs₂ => wpAny_pure ?_)
    have hTO₂ : IsPair h₂ TO a b := hs₂.extBut _ _ D.TOi1 (hs₁.extBut _ _ D.TOz hTO)
    refine wpAny_bind (wpAny_seqItems hTO₂ rfl ?_)
    refine wpAny_bind (wpAny_updateSeq_pair hTO₂ fun h₃ hTO₃ hs₃ => ?_)
    replace hTO₃ : IsPair h₃ TO x b := hTO₃
    refine wpAny_bind (wpAny_letGo (wpAny_pure ?_))
    refine wpAny_bind (wpAny_bind (wpAny_onRaise ?_))
    show wpAny _ _ (Builtin.SmallTypes.nextOf (.ref i2) >>= _) _ _ _
    refine wpAny_bind (RZ.nextOf_tuple_item (((h2.extBut hs₁.extBut D.i2z).extBut hs₂.extBut D.i12.symm).extBut hs₃.extBut D.TOi2.symm)
      (((hl2.extBut hs₁.extBut D.l2z).extBut hs₂.extBut D.l2i1).extBut hs₃.extBut D.l2TO) hy fun h₄ h2₄ hs₄ => wpAny_pure ?_)
    have hTO₄ : IsPair h₄ TO x b := hs₄.extBut _ _ D.TOi2 hTO₃
    refine wpAny_bind (wpAny_seqItems hTO₄ rfl ?_)
    refine wpAny_bind (wpAny_updateSeq_pair hTO₄ fun h₅ hTO₅ hs₅ => ?_)
    replace hTO₅ : IsPair h₅ TO x y := hTO₅
    refine wpAny_bind (wpAny_letGo (wpAny_pure (wpAny_pure ?_)))
    refine wpAny_bind (wpAny_seqItems hTO₅ rfl ?_)
    refine wpAny_bind (wpAny_newTuple ?_)
    have hsz : h₅.objs.size = s.heap.objs.size := by rw [hs₅.1, hs₄.1, hs₃.1, hs₂.1, hs₁.1]
    have hz₅ : ZF h₅ z TI TO .ellipsis f0 := hs₅.extBut _ _ D.TOz.symm (hs₄.extBut _ _ D.i2z.symm (hs₃.extBut _ _ D.TOz.symm (hs₂.extBut _ _ D.i1z.symm hz₁)))
    have hk₅ : ∀ c o, c ≠ z → c ≠ TO → c ≠ i1 → c ≠ i2 → s.heap.get? c = some o → h₅.get? c = some o := fun c o c1 c2 c3 c4 e =>
      hs₅.extBut _ _ c2 (hs₄.extBut _ _ c4 (hs₃.extBut _ _ c2 (hs₂.extBut _ _ c3 (hs₁.extBut _ _ c1 e))))
    have h1₅ : h₅.IsTupleIter i1 l1 (k1 + 1) := ((h1₂.extBut hs₃.extBut D.TOi1.symm).extBut hs₄.extBut D.i12).extBut hs₅.extBut D.TOi1.symm
    have h2₅ : h₅.IsTupleIter i2 l2 (k2 + 1) := h2₄.extBut hs₅.extBut D.TOi2.symm
    have hzlt : z < h₅.objs.size := Heap.lt_size hz₅
    show wpAny _ _ (Builtin.SmallTypes.ownedTupleHandOut (.ref z) (.ref h₅.objs.size) >>= _) _ _ _
    refine wpAny_bind ?_
    unfold Builtin.SmallTypes.ownedTupleHandOut
    have hz₆ : (h₅.push { cls := .type "tuple", data := .seq #[x, y] }).get? z = some { cls := .type "zip", dict := none, data := .fields #[.ellipsis, .bool f0, .bool false, .ref TI, .ref TO], slots := #[] } := Heap.get?_push_of_some _ hz₅
    refine wpAny_bind (wpAny_setField_rec hz₆ (by simp) fun h₇ hz₇ hs₇ => ?_)
    replace hz₇ : h₇.get? z = some { cls := .type "zip", dict := none, data := .fields #[rawInt h₅.objs.size, .bool f0, .bool false, .ref TI, .ref TO], slots := #[] } := hz₇
    refine wpAny_setField_rec hz₇ (by simp) fun h₈ hz₈ hs₈ => ?_
    replace hz₈ : ZF h₈ z TI TO (rawInt h₅.objs.size) false := hz₈
    have up : ∀ c o, c ≠ z → h₅.get? c = some o → h₈.get? c = some o := fun c o c1 e => hs₈.extBut _ _ c1 (hs₇.extBut _ _ c1 (Heap.get?_push_of_some _ e))
    have hT₈ : IsPair h₈ h₅.objs.size x y := hs₈.extBut _ _ (Nat.ne_of_gt hzlt) (hs₇.extBut _ _ (Nat.ne_of_gt hzlt) (Heap.get?_push_size _ rfl))
    have hz8 : h₈.objs.size = h₅.objs.size + 1 := by rw [hs₈.1, hs₇.1, Heap.size_push]
    rw [hsz] at hz₈ hT₈ hz8
    refine wpAny_pure ⟨_, rfl, ?_⟩
    show Q (.ref h₅.objs.size) _
    rw [hsz]
    exact hQ h₈ ⟨_, _, .inr ⟨_, rfl⟩, hz₈⟩ ⟨_, _, up _ _ D.TOz hTO₅⟩ (h1₅.at fun o e => up _ o D.i1z e) (h2₅.at fun o e => up _ o D.i2z e) hT₈ hz8 fun c o c1 c2 c3 c4 e => up c o c1 (hk₅ c o c1 c2 c3 c4 e)
  | false =>
    simp only [Bool.false_eq_true, if_false]
    refine wpAny_bind ?_
    rw [← Array.forIn_toList]
    simp only [List.forIn_cons, List.forIn_nil]
    refine wpAny_bind (wpAny_bind (wpAny_holding ?_))
    show wpAny _ _ (Builtin.SmallTypes.nextOf (.ref i1) >>= _) _ _ _
    refine wpAny_bind (RZ.nextOf_tuple_item (s := { s with heap := h₀ }) (h1.extBut hs₀.extBut D.i1z) (hl1.extBut hs₀.extBut D.l1z) hx fun h₂ h1₂ hs₂ => wpAny_pure ?_)
    refine wpAny_pure ?_
    refine wpAny_bind (wpAny_bind (wpAny_holding ?_))
    show wpAny _ _ (Builtin.SmallTypes.nextOf (.ref i2) >>= _) _ _ _
    refine wpAny_bind (RZ.nextOf_tuple_item (s := { s with heap := h₂ }) ((h2.extBut hs₀.extBut D.i2z).extBut hs₂.extBut D.i12.symm) ((hl2.extBut hs₀.extBut D.l2z).extBut hs₂.extBut D.l2i1) hy fun h₃ h2₃ hs₃ => wpAny_pure ?_)
    refine wpAny_pure (wpAny_pure ?_)
    show wpAny _ _ (newTuple [x, y] >>= _) _ _ _
    refine wpAny_bind (wpAny_newTuple ?_)
    have hsz : h₃.objs.size = s.heap.objs.size := by rw [hs₃.1, hs₂.1, hs₀.1]
    have hz₃ : ZF h₃ z TI TO u0 f0 := hs₃.extBut _ _ D.i2z.symm (hs₂.extBut _ _ D.i1z.symm hzz0)
    have hk : ∀ c o, c ≠ z → c ≠ i1 → c ≠ i2 → s.heap.get? c = some o → h₃.get? c = some o := fun c o c1 c2 c3 e => hs₃.extBut _ _ c3 (hs₂.extBut _ _ c2 (hs₀.extBut _ _ c1 e))
    have h1₃ : h₃.IsTupleIter i1 l1 (k1 + 1) := h1₂.extBut hs₃.extBut D.i12
    have hTO₃ : IsPair h₃ TO a b := hs₃.extBut _ _ D.TOi2 (hs₂.extBut _ _ D.TOi1 hTO₀)
    refine wpAny_pure ⟨_, rfl, ?_⟩
    show Q (.ref h₃.objs.size) _
    have hp : IsPair (h₃.push { cls := .type "tuple", data := .seq #[x, y] }) h₃.objs.size x y := Heap.get?_push_size _ rfl
    have hz4 : (h₃.push { cls := .type "tuple", data := .seq #[x, y] }).objs.size = h₃.objs.size + 1 := Heap.size_push ..
    rw [hsz] at hp hz4 ⊢
    exact hQ _ ⟨_, _, hu0, Heap.get?_push_of_some _ hz₃⟩ ⟨_, _, Heap.get?_push_of_some _ hTO₃⟩ (h1₃.at fun o e => Heap.get?_push_of_some _ e) (h2₃.at fun o e => Heap.get?_push_of_some _ e) hp hz4 fun c o c1 _ c3 c4 e => Heap.get?_push_of_some _ (hk c o c1 c3 c4 e)
theorem zipA_stop {z TI TO i1 i2 l1 l2 : Addr} {k1 k2 : Nat} {xs ys : Array Value} {Q : Fin → Shared → Prop} (hh : A.handled = none) (D : ZipApart z TI TO i1 i2 l1 l2)
    (hz : Zst s.heap z TI TO) (hTI : IsPair s.heap TI (.ref i1) (.ref i2)) (hTO : ∃ a b, IsPair s.heap TO a b)
    (h1 : s.heap.IsTupleIter i1 l1 k1) (h2 : s.heap.IsTupleIter i2 l2 k2) (hl1 : s.heap.IsTuple l1 xs) (hl2 : s.heap.IsTuple l2 ys) (hend : xs[k1]? = none ∨ ys[k2]? = none)
    (hE : ∀ h' e, (∀ c o, c ≠ z → c ≠ TO → c ≠ i1 → c ≠ i2 → s.heap.get? c = some o → h'.get? c = some o) → (∃ o, h'.get? e = some o ∧ o.cls = .type "StopIteration") → E (.ref e) { s with heap := h' }) :
    wpAny (model prog w) A (Builtin.«zip.__next__» ⟨[.ref z], []⟩) Q E s := by
  obtain ⟨a, b, hTO⟩ := hTO
  obtain ⟨u, f, hu, hzz⟩ := id hz
  unfold ZF at hzz
  show wpAny _ _ (field (.ref z) 2 >>= _) _ _ _
  refine wpAny_bind (wpAny_field hzz rfl (x := .bool false) rfl ?_)
  show wpAny _ _ (field (.ref z) 3 >>= _) _ _ _
  refine wpAny_bind (wpAny_field hzz rfl (x := .ref TI) rfl ?_)
  refine wpAny_bind (wpAny_seqItems hTI rfl ?_)
  show wpAny _ _ (Builtin.SmallTypes.ownedTupleIsFree (.ref z) >>= _) _ _ _
  refine wpAny_bind (zst_free hz fun b0 h₀ hz₀ hs₀ => ?_)
  obtain ⟨u0, f0, hu0, hzz0⟩ := id hz₀
  unfold ZF at hzz0
  have hTO₀ : IsPair h₀ TO a b := hs₀.extBut _ _ D.TOz hTO
  cases b0 with
  | true =>
    simp only [if_true]
    refine wpAny_bind (wpAny_rule ?_)
    refine wpAny_bind (wpAny_field hzz0 rfl (x := .ref TO) rfl ?_)
    refine wpAny_bind (wpAny_setField_rec hzz0 (by simp) fun h₁ hz₁ hs₁' => ?_)
    have hs₁ : Heap.SameBut z s.heap h₁ := ⟨hs₁'.1.trans hs₀.1, fun b hb => (hs₁'.2 b hb).trans (hs₀.2 b hb)⟩
    replace hz₁ : h₁.get? z = some { cls := .type "zip", dict := none, data := .fields #[.ellipsis, .bool f0, .bool false, .ref TI, .ref TO], slots := #[] } := hz₁
    refine wpAny_bind ?_
    simp only [List.zipIdx_cons, List.zipIdx_nil, List.forIn_cons, List.forIn_nil]
    refine wpAny_bind (wpAny_bind (wpAny_onRaise ?_))
    show wpAny _ _ (Builtin.SmallTypes.nextOf (.ref i1) >>= _) _ _ _
    cases hx : xs[k1]? with
    | none =>
      refine wpAny_bind (RZ.nextOf_tuple_end hh (h1.extBut hs₁.extBut D.i1z) (hl1.extBut hs₁.extBut D.l1z) hx fun h₂ e hs₂ he => ?_)
      obtain ⟨oe, hoe, hce⟩ := he
      have hz₂ : h₂.get? z = some { cls := .type "zip", dict := none, data := .fields #[.ellipsis, .bool f0, .bool false, .ref TI, .ref TO], slots := #[] } := hs₂ _ _ D.i1z.symm hz₁
      have hez : e ≠ z := fun x => by subst x; rw [hz₂] at hoe; cases hoe; simp at hce
      refine wpAny_setField_rec hz₂ (by simp) fun h₃ _ hs₃ => hE h₃ e (fun c o c1 _ c3 _ x => hs₃.extBut _ _ c1 (hs₂ _ _ c3 (hs₁.extBut _ _ c1 x))) ⟨oe, hs₃.extBut _ _ hez hoe, hce⟩
    | some x =>
      have hy : ys[k2]? = none := by rcases hend with h | h; rw [hx] at h; cases h; exact h
      refine wpAny_bind (RZ.nextOf_tuple_item (h1.extBut hs₁.extBut D.i1z) (hl1.extBut hs₁.extBut D.l1z) hx fun h₂ h1₂ hs₂ => wpAny_pure ?_)
      have hTO₂ : IsPair h₂ TO a b := hs₂.extBut _ _ D.TOi1 (hs₁.extBut _ _ D.TOz hTO)
      refine wpAny_bind (wpAny_seqItems hTO₂ rfl ?_)
      refine wpAny_bind (wpAny_updateSeq_pair hTO₂ fun h₃ hTO₃ hs₃ => ?_)
      refine wpAny_bind (wpAny_letGo (wpAny_pure ?_))
      refine wpAny_bind (wpAny_bind (wpAny_onRaise ?_))
      show wpAny _ _ (Builtin.SmallTypes.nextOf (.ref i2) >>= _) _ _ _
      refine wpAny_bind (RZ.nextOf_tuple_end hh (((h2.extBut hs₁.extBut D.i2z).extBut hs₂.extBut D.i12.symm).extBut hs₃.extBut D.TOi2.symm)
        (((hl2.extBut hs₁.extBut D.l2z).extBut hs₂.extBut D.l2i1).extBut hs₃.extBut D.l2TO) hy fun h₄ e hs₄ he => ?_)
      obtain ⟨oe, hoe, hce⟩ := he
      have hz₄ : h₄.get? z = some { cls := .type "zip", dict := none, data := .fields #[.ellipsis, .bool f0, .bool false, .ref TI, .ref TO], slots := #[] } := hs₄ _ _ D.i2z.symm (hs₃.extBut _ _ D.TOz.symm (hs₂.extBut _ _ D.i1z.symm hz₁))
      have hez : e ≠ z := fun x => by subst x; rw [hz₄] at hoe; cases hoe; simp at hce
      refine wpAny_setField_rec hz₄ (by simp) fun h₅ _ hs₅ => hE h₅ e (fun c o c1 c2 c3 c4 x => hs₅.extBut _ _ c1 (hs₄ _ _ c4 (hs₃.extBut _ _ c2 (hs₂.extBut _ _ c3 (hs₁.extBut _ _ c1 x))))) ⟨oe, hs₅.extBut _ _ hez hoe, hce⟩
  | false =>
    simp only [Bool.false_eq_true, if_false]
    refine wpAny_bind ?_
    rw [← Array.forIn_toList]
    simp only [List.forIn_cons, List.forIn_nil]
    refine wpAny_bind (wpAny_bind (wpAny_holding ?_))
    show wpAny _ _ (Builtin.SmallTypes.nextOf (.ref i1) >>= _) _ _ _
    cases hx : xs[k1]? with
    | none =>
      refine wpAny_bind (RZ.nextOf_tuple_end (s := { s with heap := h₀ }) hh (h1.extBut hs₀.extBut D.i1z) (hl1.extBut hs₀.extBut D.l1z) hx fun h₂ e hs₂ he => ?_)
      exact hE h₂ e (fun c o c1 _ c3 _ x => hs₂ _ _ c3 (hs₀.extBut _ _ c1 x)) he
    | some x =>
      have hy : ys[k2]? = none := by rcases hend with h | h; rw [hx] at h; cases h; exact h
      refine wpAny_bind (RZ.nextOf_tuple_item (s := { s with heap := h₀ }) (h1.extBut hs₀.extBut D.i1z) (hl1.extBut hs₀.extBut D.l1z) hx fun h₂ h1₂ hs₂ => wpAny_pure ?_)
      refine wpAny_pure ?_
      refine wpAny_bind (wpAny_bind (wpAny_holding ?_))
      show wpAny _ _ (Builtin.SmallTypes.nextOf (.ref i2) >>= _) _ _ _
      refine wpAny_bind (RZ.nextOf_tuple_end (s := { s with heap := h₂ }) hh ((h2.extBut hs₀.extBut D.i2z).extBut hs₂.extBut D.i12.symm) ((hl2.extBut hs₀.extBut D.l2z).extBut hs₂.extBut D.l2i1) hy fun h₃ e hs₃ he => ?_)
      exact hE h₃ e (fun c o c1 _ c3 c4 x => hs₃ _ _ c4 (hs₂.extBut _ _ c3 (hs₀.extBut _ _ c1 x))) he
theorem zst_type {h : Heap} {z TI TO : Addr} {s : Shared} (hz : Zst s.heap z TI TO) : s.TypeIs (.ref z) "zip" := let ⟨u, f, _, hz⟩ := hz; ⟨_, hz, rfl⟩
theorem nextOf_zipA {z TI TO i1 i2 l1 l2 : Addr} {k1 k2 : Nat} {xs ys : Array Value} {x y : Value} {Q : Value → Shared → Prop} (D : ZipApart z TI TO i1 i2 l1 l2)
    (hz : Zst s.heap z TI TO) (hTI : IsPair s.heap TI (.ref i1) (.ref i2)) (hTO : ∃ a b, IsPair s.heap TO a b)
    (h1 : s.heap.IsTupleIter i1 l1 k1) (h2 : s.heap.IsTupleIter i2 l2 k2) (hl1 : s.heap.IsTuple l1 xs) (hl2 : s.heap.IsTuple l2 ys) (hx : xs[k1]? = some x) (hy : ys[k2]? = some y)
    (hQ : ∀ h', Zst h' z TI TO → (∃ a b, IsPair h' TO a b) → h'.IsTupleIter i1 l1 (k1 + 1) → h'.IsTupleIter i2 l2 (k2 + 1) → IsPair h' s.heap.objs.size x y → h'.objs.size = s.heap.objs.size + 1 →
      (∀ c o, c ≠ z → c ≠ TO → c ≠ i1 → c ≠ i2 → s.heap.get? c = some o → h'.get? c = some o) → Q (.ref s.heap.objs.size) { s with heap := h' }) :
    wpAny (model prog w) A (Builtin.SmallTypes.nextOf (.ref z)) Q E s := by
  have hT := zst_type (h := s.heap) hz
  unfold Builtin.SmallTypes.nextOf
  refine wpAny_bind (wpAny_callSpecial?_slot (name := Str.ofString "__next__") hT F.slot_zip_next (wpAny_call_entry F.slot_zip_next hT F.entry_zip_next
    (zipA_next D hz hTI hTO h1 h2 hl1 hl2 hx hy fun h' a1 a2 a3 a4 a5 a6 a7 => wpAny_pure (hQ h' a1 a2 a3 a4 a5 a6 a7)) (F.args_zip_next_1 _)))
theorem nextOf_zipA_end {z TI TO i1 i2 l1 l2 : Addr} {k1 k2 : Nat} {xs ys : Array Value} {Q : Value → Shared → Prop} (hh : A.handled = none) (D : ZipApart z TI TO i1 i2 l1 l2)
    (hz : Zst s.heap z TI TO) (hTI : IsPair s.heap TI (.ref i1) (.ref i2)) (hTO : ∃ a b, IsPair s.heap TO a b)
    (h1 : s.heap.IsTupleIter i1 l1 k1) (h2 : s.heap.IsTupleIter i2 l2 k2) (hl1 : s.heap.IsTuple l1 xs) (hl2 : s.heap.IsTuple l2 ys) (hend : xs[k1]? = none ∨ ys[k2]? = none)
    (hE : ∀ h' e, (∀ c o, c ≠ z → c ≠ TO → c ≠ i1 → c ≠ i2 → s.heap.get? c = some o → h'.get? c = some o) → (∃ o, h'.get? e = some o ∧ o.cls = .type "StopIteration") → E (.ref e) { s with heap := h' }) :
    wpAny (model prog w) A (Builtin.SmallTypes.nextOf (.ref z)) Q E s := by
  have hT := zst_type (h := s.heap) hz
  unfold Builtin.SmallTypes.nextOf
  exact wpAny_bind (wpAny_callSpecial?_slot (name := Str.ofString "__next__") hT F.slot_zip_next (wpAny_call_entry F.slot_zip_next hT F.entry_zip_next
    (zipA_stop (A := A.in1) hh D hz hTI hTO h1 h2 hl1 hl2 hend hE) (F.args_zip_next_1 _)))
end

/-- two new objects are laid -/
theorem turnedTwo {X : Cx} {pins : List (Addr × Obj)} {σ : L2.St} {H : Hp} {s : Shared} {h' : Heap} {t' : Nat} {ch : List Addr} {T T1 : Addr} {ob o1 : HO} (I : Inv X pins σ H s) (k : ∀ b o, b ∉ ch → s.heap.get? b = some o → h'.get? b = some o) (hf : ∀ b ∈ ch, FpOk X pins H b)
    (hT1 : s.heap.objs.size ≤ T1) (hT : s.heap.objs.size ≤ T)
    (new1 : ObjOk X.prog X.w (upd (upd H T1 o1) T ob) h' T1 o1) (new : ObjOk X.prog X.w (upd (upd H T1 o1) T ob) h' T ob) (hne : T1 ≠ T) : Inv X pins σ (upd (upd H T1 o1) T ob) { s with heap := h', toks := t' } := by
  have hn1 : H T1 = none := I.hok.fresh hT1
  have hn : H T = none := I.hok.fresh hT
  have up : ∀ {b : Addr} {u : HO}, H b = some u → upd (upd H T1 o1) T ob b = some u := fun {b u} e => by
    rw [upd_ne (ne_of_none e hn), upd_ne (ne_of_none e hn1)]; exact e
  have nit : ∀ b u, H b = some u → b ∉ ch := fun b u e z => by
    have q := (hf b z).1
    rw [q] at e; cases e
  refine I.step (g' := s.gens) (d' := s.drawn) (ch := ch) (fun b hb => ⟨(hf b hb).2.2.2.1, (hf b hb).2.1, (hf b hb).2.2.2.2.1, (hf b hb).2.2.2.2.2⟩) (fun b o _ _ hc e _ => k b o hc e) (fun b o _ _ hc e _ => ⟨o.slots, k b o hc e⟩)
    (fun b o _ e n => ?_) (fun b o hc e => ⟨o, k b o hc e⟩) (fun b xs e => up e) (fun b o u e => up e) (fun b ps e => ⟨#[], ?_⟩) (fun m hm => ?_) (fun b u e => ?_) I.bare
  · rw [upd_ne (Nat.ne_of_lt (Nat.lt_of_lt_of_le (Heap.lt_size e) hT)), upd_ne (Nat.ne_of_lt (Nat.lt_of_lt_of_le (Heap.lt_size e) hT1))]; exact n
  · rw [up e]; simp
  · obtain ⟨o, es, ep, ho, r⟩ := hm
    exact ⟨o, es, ep, k _ o (fun z => (hf _ z).2.1 rfl) ho, r⟩
  · by_cases hb : b = T
    · subst hb
      rw [upd_same] at e
      cases e
      exact new
    · rw [upd_ne hb] at e
      by_cases hb1 : b = T1
      · subst hb1
        rw [upd_same] at e
        cases e
        exact new1
      · rw [upd_ne hb1] at e
        refine (I.hok b u e).stay (fun c v hc q => k c v ?_ q) (fun c q => up q) fun c xs q => up q
        rcases hc with z | z
        · rw [z]; exact nit b u e
        · exact nit c _ z

/-! ### enumerate(zip(tuple, tuple)) -/
def IteZ (K : PySem.W.Frag) (a b : Addr) : It :=
  ⟨fun i H => ∃ (xs ys : List V) (x y : V), SqT K H a xs ∧ SqT K H b ys ∧ xs[i]? = some x ∧ ys[i]? = some y,
    fun i H v H' => ∃ T T1 x y, v = .ref T ∧ T1 ≠ T ∧ H T = none ∧ H T1 = none ∧ H' = upd (upd H T1 (.tup [x, y])) T (.tup [.int (i : Nat), .ref T1]) ∧ (∀ xs, SqT K H a xs → xs[i]? = some x) ∧ ∀ ys, SqT K H b ys → ys[i]? = some y,
    fun i H => ∃ xs ys : List V, SqT K H a xs ∧ SqT K H b ys ∧ (xs.length ≤ i ∨ ys.length ≤ i)⟩
theorem turn_enumZ {P : Program} {w : World} {K : PySem.W.Frag} {elts : List Expr} {kk : Nat} {tpos : Pos} {a b e z TI TO i1 i2 : Addr} (D : ZipApart z TI TO i1 i2 a b) :
    Turn P w K (.Tuple elts kk tpos) (IteZ K a b) [e, z, TI, TO, i1, i2] e (fun i h => (∃ old, IsEnum h e z ((i : Nat) : Int) old) ∧ Zst h z TI TO ∧ IsPair h TI (.ref i1) (.ref i2) ∧ (∃ x y, IsPair h TO x y) ∧ h.IsTupleIter i1 a i ∧ h.IsTupleIter i2 b i ∧ e ≠ z ∧ e ≠ TI ∧ e ≠ TO ∧ e ≠ i1 ∧ e ≠ i2) where
  mem := by simp
  obj := fun i h st c hc => by
    obtain ⟨⟨old, he⟩, ⟨u, f, _, hz⟩, hTI, ⟨x, y, hTO⟩, ⟨o1, e1, _, d1⟩, ⟨o2, e2, _, d2⟩, _⟩ := st
    have e' : c = e ∨ c = z ∨ c = TI ∨ c = TO ∨ c = i1 ∨ c = i2 := by simpa using hc
    rcases e' with q | q | q | q | q | q
    · rw [q]; exact ⟨_, he, fun v q => nomatch q⟩
    · rw [q]; exact ⟨_, hz, fun v q => nomatch q⟩
    · rw [q]; exact ⟨_, hTI, fun v q => nomatch q⟩
    · rw [q]; exact ⟨_, hTO, fun v q => nomatch q⟩
    · rw [q]; exact ⟨o1, e1, fun v q => by rw [d1] at q; cases q⟩
    · rw [q]; exact ⟨o2, e2, fun v q => by rw [d2] at q; cases q⟩
  keep := fun i h h' st k => by
    obtain ⟨⟨old, he⟩, ⟨u, f, hu, hz⟩, hTI, ⟨x, y, hTO⟩, h1, h2, n⟩ := st
    exact ⟨⟨old, k e (by simp) _ he⟩, ⟨u, f, hu, k z (by simp) _ hz⟩, k TI (by simp) _ hTI, ⟨x, y, k TO (by simp) _ hTO⟩, h1.at fun o q => k i1 (by simp) o q, h2.at fun o q => k i2 (by simp) o q, n⟩
  item := by
    intro X hP hw hK hc i pins s σ H E I hf st hg
    subst hP hw hK
    obtain ⟨⟨old, he⟩, hz, hTI, hTO, h1, h2, n1, n2, n3, n4, n5⟩ := st
    obtain ⟨xs, ys, x, y, hqx, hqy, hx, hy⟩ := hg
    obtain ⟨its, rv, p, _⟩ := I.tuple hqx
    obtain ⟨its2, rv2, p2, _⟩ := I.tuple hqy
    obtain ⟨u, hu, ru⟩ := rv.get hx
    obtain ⟨u2, hu2, ru2⟩ := rv2.get hy
    have hu' : its.toArray[i]? = some u := by simpa using hu
    have hu2' : its2.toArray[i]? = some u2 := by simpa using hu2
    have hel : e < s.heap.objs.size := Heap.lt_size he
    refine enumG_item (P := fun v h' => v = .ref s.heap.objs.size ∧ Zst h' z TI TO ∧ IsPair h' TI (.ref i1) (.ref i2) ∧ (∃ a b, IsPair h' TO a b) ∧ h'.IsTupleIter i1 a (i + 1) ∧ h'.IsTupleIter i2 b (i + 1) ∧ IsPair h' s.heap.objs.size u u2) (ch := [z, TO, i1, i2]) he (by simp [n1, n3, n4, n5])
      (fun Q E q => nextOf_zipA (A := X.A.in1) D hz hTI hTO h1 h2 p p2 hu' hu2' fun h' a1 a2 a3 a4 a5 a6 a7 => q _ h' s.toks ⟨rfl, a1, a7 TI _ D.TIz D.TITO D.TIi1 D.TIi2 hTI, a2, a3, a4, a5⟩ (by rw [a6]; exact Nat.le_succ _) fun c o hb q => a7 c o (fun q' => hb (by simp [q'])) (fun q' => hb (by simp [q'])) (fun q' => hb (by simp [q'])) (fun q' => hb (by simp [q'])) q)
      (fun v h h' ⟨v1, ⟨z1, z2, z3, z4⟩, v3, ⟨w1, w2, v4⟩, v5, v6, v7⟩ k => ⟨v1, ⟨z1, z2, z3, k z _ (Ne.symm n1) z4⟩, k TI _ (Ne.symm n2) v3, ⟨w1, w2, k TO _ (Ne.symm n3) v4⟩, v5.at fun o q => k i1 o (Ne.symm n4) q, v6.at fun o q => k i2 o (Ne.symm n5) q, k _ _ (Nat.ne_of_gt hel) v7⟩)
      fun v h' tk T ⟨hv, a1, aTI, a2, a3, a4, a5⟩ ho hT hsz hf1 hk => ?_
    subst hv
    refine ⟨_, rfl, wpAny_letOwnedTupleGo_enum (s := { s with heap := h', toks := tk + 1 }) ho fun h'' he' sb => ?_⟩
    have hTe : T ≠ e := fun z => Nat.lt_irrefl _ (Nat.lt_of_lt_of_le hel (z ▸ hsz))
    have hT1e : s.heap.objs.size ≠ e := Nat.ne_of_gt hel
    have hT2 : h''.get? T = some { cls := .type "tuple", data := .seq #[.int i tk, .ref s.heap.objs.size] } := (sb.2 _ hTe).trans hT
    have hT3 : IsPair h'' s.heap.objs.size u u2 := (sb.2 _ hT1e).trans a5
    have hTT : s.heap.objs.size ≠ T := fun z => by
      obtain ⟨hh, ⟨_, _, _, _, _, _, a9⟩, hle⟩ := hf1
      exact Nat.lt_irrefl _ (Nat.lt_of_lt_of_le (Heap.lt_size a9) (by rw [z]; exact hle))
    have new1 : ObjOk X.prog X.w (upd (upd H s.heap.objs.size (.tup [x, y])) T (.tup [.int (i : Nat), .ref s.heap.objs.size])) h'' s.heap.objs.size (.tup [x, y]) :=
      ⟨by show 2 ≤ sizeLine; decide, [u, u2], .cons ru (.cons ru2 .nil), ⟨_, hT3, rfl, _, rfl⟩⟩
    have new : ObjOk X.prog X.w (upd (upd H s.heap.objs.size (.tup [x, y])) T (.tup [.int (i : Nat), .ref s.heap.objs.size])) h'' T (.tup [.int (i : Nat), .ref s.heap.objs.size]) :=
      ⟨by show 2 ≤ sizeLine; decide, [.int i tk, .ref s.heap.objs.size], .cons ⟨_, rfl⟩ (.cons rfl .nil), ⟨_, hT2, rfl, _, rfl⟩⟩
    have I1 := turnedTwo (h' := h'') (t' := tk + 1) (ch := [e, z, TI, TO, i1, i2]) I (fun c o hb q => (sb.2 c (fun z => hb (by simp [z]))).trans (hk c o (fun z => hb (by simp [z])) (fun z => hb (by
      have z' := List.mem_cons.mp z
      rcases z' with q | z'
      · simp [q]
      · rcases List.mem_cons.mp z' with q | z'
        · simp [q]
        · rcases List.mem_cons.mp z' with q | z'
          · simp [q]
          · simp [List.mem_singleton.mp z'])) q)) hf (Nat.le_refl _) hsz new1 new hTT
    refine ⟨.ref T, _, I1, rfl, ⟨_, _, x, y, rfl, hTT, I.hok.fresh hsz, I.hok.fresh (Nat.le_refl _), rfl, fun l hl => by rw [I.tuple_inj hl hqx]; exact hx, fun l hl => by rw [I.tuple_inj hl hqy]; exact hy⟩, ⟨⟨.ref s.heap.objs.size, ?_⟩, ?_, (sb.2 TI (Ne.symm n2)).trans aTI, ?_, a3.at fun o q => (sb.2 i1 (Ne.symm n4)).trans q, a4.at fun o q => (sb.2 i2 (Ne.symm n5)).trans q, n1, n2, n3, n4, n5⟩, fun c hcm => ?_⟩
    · have e1 : ((i + 1 : Nat) : Int) = (i : Int) + 1 := by omega
      rw [e1]; exact he'
    · obtain ⟨z1, z2, z3, z4⟩ := a1
      exact ⟨z1, z2, z3, (sb.2 z (Ne.symm n1)).trans z4⟩
    · obtain ⟨w1, w2, v4⟩ := a2
      exact ⟨w1, w2, (sb.2 TO (Ne.symm n3)).trans v4⟩
    · have hlt : c < s.heap.objs.size := by
        obtain ⟨_, _, _, hz⟩ := hz
        obtain ⟨_, _, hTO⟩ := hTO
        have e' : c = e ∨ c = z ∨ c = TI ∨ c = TO ∨ c = i1 ∨ c = i2 := by simpa using hcm
        rcases e' with q | q | q | q | q | q
        · rw [q]; exact hel
        · rw [q]; exact Heap.lt_size hz
        · rw [q]; exact Heap.lt_size hTI
        · rw [q]; exact Heap.lt_size hTO
        · rw [q]; obtain ⟨_, e1, _⟩ := h1; exact Heap.lt_size e1
        · rw [q]; obtain ⟨_, e2, _⟩ := h2; exact Heap.lt_size e2
      rw [upd_ne (Nat.ne_of_lt (Nat.lt_of_lt_of_le hlt hsz)), upd_ne (Nat.ne_of_lt hlt)]
      exact (hf c hcm).1
  done := by
    intro X hP hw hK hc i pins s σ H E I hf st hg
    subst hP hw hK
    obtain ⟨⟨old, he⟩, hz, hTI, hTO, h1, h2, n1, n2, n3, n4, n5⟩ := st
    obtain ⟨xs, ys, hqx, hqy, hend⟩ := hg
    obtain ⟨its, rv, p, _⟩ := I.tuple hqx
    obtain ⟨its2, rv2, p2, _⟩ := I.tuple hqy
    have l1 := rv.length
    have l2 := rv2.length
    have hen : its.toArray[i]? = none ∨ its2.toArray[i]? = none := by
      rcases hend with q | q
      · exact .inl (by simp; omega)
      · exact .inr (by simp; omega)
    exact enumG_end (φ := fun h' => ∀ c o, c ≠ z → c ≠ TO → c ≠ i1 → c ≠ i2 → s.heap.get? c = some o → h'.get? c = some o) he (fun Q E q => nextOf_zipA_end (A := X.A.in1) (I.ok.hd hc) D hz hTI hTO h1 h2 p p2 hen fun h' e' eb ho => q h' e' eb ho) fun h' hk => ⟨rfl, I.turnedL (t' := s.toks) (ch := [e, z, TI, TO, i1, i2]) (fun c o hb q =>
      hk c o (fun q' => hb (by simp [q'])) (fun q' => hb (by simp [q'])) (fun q' => hb (by simp [q'])) (fun q' => hb (by simp [q'])) q) hf⟩
  self := fun A i s Q E st h => let ⟨⟨_, he⟩, _⟩ := st; wpAny_pyIter_enum he h
def iEnumZ (K : PySem.W.Frag) (ta : TA) : TI := fun σ H R => ta σ H fun vs H1 => ∃ a b xs ys, vs = [.ref a, .ref b] ∧ SqT K H1 a xs ∧ SqT K H1 b ys ∧ R (IteZ K a b) H1
theorem pi_enumZ {X : Cx} {e e2 : Expr} {ta : TA} {p p2 q pos tpos : Pos} {elts : List Expr} {kk : Nat} (hg : Gl X "enumerate") (hm : X.mg "enumerate" = none) (hg2 : Gl X "zip") (hm2 : X.mg "zip" = none) (ha : PA X [e, e2] ta)
    (hs : starEach [e, e2] X.env = (false, eval e X.env) :: starEach [e2] X.env := by rfl) (hpl : (backTo q (starEach [e2] X.env)).any (·.1) = false := by rfl) :
    PI X (.Tuple elts kk tpos) (.Call (.Name "enumerate" p) [.Call (.Name "zip" p2) [e, e2] [] q] [] pos) (iEnumZ X.K ta) := by
  refine ⟨fun pins s σ H R I h => ?_⟩
  refine Call_ (ld_blt I hg hm boot_enumerate (PyProof.Rows.callWith_type1 (PyProof.Rows.args_cons ?_ rfl) rfl rfl))
  refine Call_ (ld_blt I hg2 hm2 PyProof.Rows.boot_zip (PyProof.Rows.callWith_type1 (thn (ha.run q pins s σ H _ I h) fun us s1 ⟨vs, H1, I1, r1, q1⟩ => ?_) hs hpl))
  obtain ⟨a, b, xs, ys, ex, hqx, hqy, q⟩ := q1
  subst ex
  cases r1 with
  | cons r rr =>
    cases rr with
    | cons r' rr =>
      cases rr
      cases r
      cases r'
      obtain ⟨its, rv, p1, _⟩ := I1.tuple hqx
      obtain ⟨its2, rv2, p2, _⟩ := I1.tuple hqy
      obtain ⟨o1, ho1, _⟩ := id p1
      obtain ⟨o2, ho2, _⟩ := id p2
      refine RZ.call_zipT (show s1.heap.IsTuple a its.toArray from p1) (show s1.heap.IsTuple b its2.toArray from p2) fun h' hz hTI hTO h1 h2 hsz hk => PyProof.Rows.args_nil (call_enumZ (s := { s1 with heap := h' }) hz fun h2' he hk2 => wpAny_pyIter_enum he ?_)
      have I2 : Inv X pins σ H1 { s1 with heap := h2' } := I1.kept (t' := s1.toks) fun c o e => hk2 c o (hk c o e)
      have hs' : h'.objs.size = s1.heap.objs.size + 5 := hsz
      have nn : ∀ k : Nat, k < 5 → h'.objs.size ≠ s1.heap.objs.size + k := fun k hk z => by omega
      have n0 : h'.objs.size ≠ s1.heap.objs.size := fun z => by omega
      refine ⟨h'.objs.size, [h'.objs.size, s1.heap.objs.size + 4, s1.heap.objs.size + 2, s1.heap.objs.size + 3, s1.heap.objs.size, s1.heap.objs.size + 1], _, _, H1, rfl, I2, turn_enumZ (PySem.W.ktu_apart s1.heap.objs.size a b (Heap.lt_size ho1) (Heap.lt_size ho2)),
        ⟨⟨.none, he⟩, ⟨_, _, .inl rfl, hk2 _ _ hz⟩, hk2 _ _ hTI, ⟨_, _, hk2 _ _ hTO⟩, h1.at fun o e => hk2 _ o e, h2.at fun o e => hk2 _ o e, nn 4 (by decide), nn 2 (by decide), nn 3 (by decide), n0, nn 1 (by decide)⟩, fun c hcm => ?_, q⟩
      have e' : c = h'.objs.size ∨ c = s1.heap.objs.size + 4 ∨ c = s1.heap.objs.size + 2 ∨ c = s1.heap.objs.size + 3 ∨ c = s1.heap.objs.size ∨ c = s1.heap.objs.size + 1 := by simpa using hcm
      have hle : s1.heap.objs.size ≤ c := by
        rcases e' with z | z | z | z | z | z <;> rw [z]
        · omega
        · exact Nat.le_add_right _ _
        · exact Nat.le_add_right _ _
        · exact Nat.le_add_right _ _
        · exact Nat.le_refl _
        · exact Nat.le_add_right _ _
      exact I1.fpOk hle (I1.hok.fresh hle)
end SP
set_option Elab.async false
set_option linter.all false
set_option maxRecDepth 100000
/-! Stillpanes, part 7: evaluation beside owned objects; comprehensions, sources, targets, calls, locks over data. -/
namespace SP
open PySem L2

def SameX (A : List Addr) (H H' : Hp) : Prop := ∀ a o, a ∉ A → H a = some o → H' a = some o
def NT : HO → Prop
  | .tup _ => False
  | _ => True
/-- what stands at the addresses of A -/
def Own (A : List Addr) (C H : Hp) : Prop := ∀ a ∈ A, ∃ o, C a = some o ∧ H a = some o ∧ NT o
theorem SameX.refl {A : List Addr} (H : Hp) : SameX A H H := fun _ _ _ h => h
theorem SameX.of {A : List Addr} {H H' : Hp} (e : Same H H') : SameX A H H' := fun a o _ h => e a o h
theorem SameX.trans {A : List Addr} {H H1 H2 : Hp} (x : SameX A H H1) (y : SameX A H1 H2) : SameX A H H2 := fun a o n h => y a o n (x a o n h)
theorem SameX.same {H H' : Hp} (x : SameX [] H H') : Same H H' := fun a o h => x a o (by simp) h
theorem Own.nil {C H : Hp} : Own [] C H := fun a h => nomatch h
theorem Own.same {A : List Addr} {C H H' : Hp} (w : Own A C H) (e : Same H H') : Own A C H' := fun a h => let ⟨o, c, i, n⟩ := w a h; ⟨o, c, e a o i, n⟩
theorem Own.sameX {A B : List Addr} {C H H' : Hp} (w : Own A C H) (e : SameX B H H') (d : ∀ a ∈ A, a ∉ B) : Own A C H' := fun a h => let ⟨o, c, i, n⟩ := w a h; ⟨o, c, e a o (d a h) i, n⟩
theorem Own.at {A : List Addr} {C H : Hp} {a : Addr} (w : Own A C H) (h : a ∈ A) : H a = C a := by
  obtain ⟨o, c, i, _⟩ := w a h
  rw [c, i]
def Out (A : List Addr) (G : Hp) : Prop := ∀ a ∈ A, G a = none
section
variable {A : List Addr} {C C1 C2 G H H1 H2 : Hp} {a : Addr}
theorem free_in (e : SameX A H H1) (w : Own A C H1) (h : H1 a = none) : H a = none := by
  cases q : H a with
  | none => rfl
  | some u =>
    by_cases m : a ∈ A
    · obtain ⟨o, _, i, _⟩ := w a m
      rw [h] at i; cases i
    · rw [e a u m q] at h; cases h
theorem extX_sub (s : Sub G H) (x : Out A G) (e : SameX A H H2) : Sub (ext G H H2) H2 := fun a o h => by
  rcases ext_cases h with ⟨_, h⟩ | ⟨_, h⟩ | ⟨_, h⟩
  · exact h
  · exact h
  · exact e _ _ (fun m => by rw [x a m] at h; cases h) (s _ _ h)
theorem extX_ge (s : Sub G H) (x : Out A G) (e : SameX A H H2) : Sub G (ext G H H2) := fun a o h => by
  have h1 := s _ _ h
  have h2 := e _ _ (fun m => by rw [x a m] at h; cases h) h1
  unfold ext
  rw [h2, h1]
  cases o with
  | tup vs => rfl
  | _ => exact h
theorem extX_out (w : Own A C H) (w2 : Own A C2 H2) (x : Out A G) : Out A (ext G H H2) := fun a m => by
  obtain ⟨o, _, i, n⟩ := w a m
  obtain ⟨o2, _, i2, n2⟩ := w2 a m
  unfold ext
  rw [i2, i]
  cases o2 with
  | tup vs => exact n2.elim
  | _ => exact x a m
theorem extX_ext (s : Sub G H) (x : Out A G) (w : Own A C H) (e : SameX A H H1) (w1 : Own A C1 H1) (e2 : SameX A H1 H2) : Sub (ext (ext G H H1) H1 H2) (ext G H H2) := fun a o h => by
  have nA : a ∈ A → (H a = none ∨ ∃ vs, H1 a = some (.tup vs)) → False := fun m z => by
    obtain ⟨o, _, i, _⟩ := w a m
    obtain ⟨o1, _, i1, n1⟩ := w1 a m
    rcases z with z | ⟨vs, z⟩
    · rw [i] at z; cases z
    · rw [i1] at z; cases z; exact n1
  rcases ext_cases h with ⟨⟨vs, rfl⟩, h⟩ | ⟨h1, h⟩ | ⟨n, h⟩
  · exact ext_tup h
  · exact ext_new (free_in e w1 h1) h
  · rcases ext_cases h with ⟨⟨vs, rfl⟩, h⟩ | ⟨h1, h⟩ | ⟨n, h⟩
    · exact ext_tup (e2 _ _ (fun m => nA m (.inr ⟨_, h⟩)) h)
    · exact ext_new h1 (e2 _ _ (fun m => nA m (.inl h1)) h)
    · exact extX_ge s x (e.trans e2) _ _ h
end

/-! ### evaluation beside owned objects: C is what stands there before, C' behind -/
def EvX (A : List Addr) (C : Hp) (b : Bool) (ps : Ds) (te : TE) (d : D) (C' : Hp) : Prop := ∀ (σ : L2.St) (H G : Hp), Sub G H → Out A G → Own A C H → SL b G σ ps → ∀ Q : VK, (∀ v H2, SameX A H H2 → Own A C' H2 → R b (ext G H H2) v d → Q v H2) → te σ H Q
def EtX (A : List Addr) (C : Hp) (b : Bool) (ps : Ds) (tt : TT) (c : Bool) (C' : Hp) : Prop := ∀ (σ : L2.St) (H G : Hp), Sub G H → Out A G → Own A C H → SL b G σ ps → ∀ Q : Bool → Hp → Prop, (∀ H2, SameX A H H2 → Own A C' H2 → Q c H2) → tt σ H Q
def EaX (A : List Addr) (C : Hp) (b : Bool) (ps : Ds) (ta : TA) (ds : List D) (C' : Hp) : Prop := ∀ (σ : L2.St) (H G : Hp), Sub G H → Out A G → Own A C H → SL b G σ ps → ∀ Q : List V → Hp → Prop, (∀ v H2, SameX A H H2 → Own A C' H2 → RL b (ext G H H2) v ds → Q v H2) → ta σ H Q
section
variable {A : List Addr} {C C1 C2 C' : Hp} {b : Bool} {ps : Ds} {te ta tb : TE} {tt tu : TT} {t : TA} {d e : D} {ds : List D}
theorem EvP.x (h : EvP b ps te d) : EvX A C b ps te d C := fun σ H G s x w l Q q => h σ H G s l Q fun v H2 e r => q v H2 (.of e) (w.same e) r
theorem EtP.x {c : Bool} (h : EtP b ps tt c) : EtX A C b ps tt c C := fun σ H G s x w l Q q => h σ H G s l Q fun H2 e => q H2 (.of e) (w.same e)
theorem EaP.x (h : EaP b ps t ds) : EaX A C b ps t ds C := fun σ H G s x w l Q q => h σ H G s l Q fun v H2 e r => q v H2 (.of e) (w.same e) r
theorem EvX.p (h : EvX [] C b ps te d C') : EvP b ps te d := fun σ H G s l Q q => h σ H G s (fun _ z => nomatch z) Own.nil l Q fun v H2 e _ r => q v H2 e.same r
theorem EvX.is (h : EvX A C b ps te d C') (q : d = e) : EvX A C b ps te e C' := q ▸ h
theorem EvX.to (h : EvX A C b ps te d C1) (q : C1 = C') : EvX A C b ps te d C' := q ▸ h
theorem evx_two {r : R2} {z : D} (ha : EvX A C b ps ta d C1) (hb : EvX A C1 b ps tb e C2) (hr : ∀ x y H G, Sub G H → R b G x d → R b G y e → ∀ Q : VK, (∀ v H2, Same H H2 → R b (ext G H H2) v z → Q v H2) → r x y H Q) : EvX A C b ps (tOp r ta tb) z C2 :=
  fun σ H G s x w l Q q => ha σ H G s x w l _ fun u H1 e1 w1 r1 => hb σ H1 (ext G H H1) (extX_sub s x e1) (extX_out w w1 x) w1 (l.same (extX_ge s x e1)) _ fun y H2 e2 w2 r2 => by
    refine hr u y H2 (ext G H H2) (extX_sub s x (e1.trans e2)) (r1.same fun a o h => ?_) (r2.same (extX_ext s x w e1 w1 e2)) Q fun v H3 e3 r3 => ?_
    · exact extX_ext s x w e1 w1 e2 _ _ (extX_ge (extX_sub s x e1) (extX_out w w1 x) e2 _ _ h)
    · exact q v H3 ((e1.trans e2).trans (.of e3)) (w2.same e3) (r3.same (extX_ext s x w (e1.trans e2) w2 (.of e3)))
theorem evx_add {i j : Int} (ha : EvX A C b ps ta (.int i) C1) (hb : EvX A C1 b ps tb (.int j) C2) : EvX A C b ps (tOp (rI0 fun i j => .int (i + j)) ta tb) (.int (i + j)) C2 :=
  evx_two ha hb fun x y H G sub r1 r2 Q q => ⟨i, j, r1.int_, r2.int_, q _ H (Same.refl H) (.int _)⟩
theorem evx_eqI {i j : Int} (ha : EvX A C b ps ta (.int i) C1) (hb : EvX A C1 b ps tb (.int j) C2) : EvX A C b ps (tOp rEq ta tb) (.bl (decide (i = j))) C2 :=
  evx_two ha hb fun x y H G sub r1 r2 Q q => by
    rw [r1.int_, r2.int_]
    refine ⟨rfl, ?_⟩
    have e : decide (V.int i = V.int j) = decide (i = j) := by
      by_cases h : i = j
      · subst h; rw [decide_eq_true rfl, decide_eq_true rfl]
      · rw [decide_eq_false h, decide_eq_false (fun z => h (V.int.inj z))]
    rw [e]
    exact q _ H (Same.refl H) (.bl _)
theorem evx_ixL {K : PySem.W.Frag} {es : List D} {i : Int} (ha : EvX A C b ps ta (.lst es) C1) (hb : EvX A C1 b ps tb (.int i) C2) (h : atI es i = some d) : EvX A C b ps (tOp (rIxL K) ta tb) d C2 :=
  evx_two ha hb fun x y H G sub r1 r2 Q q => by
    obtain ⟨a, vs, rfl, e, l⟩ := r1.lst_
    obtain ⟨v, e1, r⟩ := l.at h
    exact ⟨a, vs, i, v, rfl, r2.int_, SqL.of (sub _ _ e), e1, q v H (Same.refl H) (r.same (ext_ge sub (Same.refl H)))⟩
theorem etx_test {c : Bool} (h : EvX A C b ps te (.bl c) C') : EtX A C b ps (tTest te) c C' := fun σ H G s x w l Q q => h σ H G s x w l _ fun v H2 e w2 r => ⟨c, r.bl_, q H2 e w2⟩
theorem etx_B {c : Bool} (h : EvX A C b ps te (.bl c) C') : EtX A C b ps (tB te) c C' := fun σ H G s x w l Q q => h σ H G s x w l _ fun v H2 e w2 r => ⟨c, r.bl_, q H2 e w2⟩
theorem eax_nil : EaX A C b ps tNil [] C := EaP.x ea_nil
theorem eax_cons {tr : TA} (h : EvX A C b ps ta d C1) (hr : EaX A C1 b ps tr ds C2) : EaX A C b ps (tCons ta tr) (d :: ds) C2 := fun σ H G s x w l Q q =>
  h σ H G s x w l _ fun v H1 e1 w1 r1 => hr σ H1 (ext G H H1) (extX_sub s x e1) (extX_out w w1 x) w1 (l.same (extX_ge s x e1)) _ fun vs H2 e2 w2 r2 =>
    q (v :: vs) H2 (e1.trans e2) w2 (.cons (r1.same fun a o h => extX_ext s x w e1 w1 e2 _ _ (extX_ge (extX_sub s x e1) (extX_out w w1 x) e2 _ _ h)) (r2.same (extX_ext s x w e1 w1 e2)))
theorem evx_args {z : D} {k : List V → Hp → VK → Prop} (h : EaX A C b ps t ds C1) (hk : ∀ vs H G, Sub G H → Out A G → Own A C1 H → RL b G vs ds → ∀ Q : VK, (∀ v H2, SameX A H H2 → Own A C2 H2 → R b (ext G H H2) v z → Q v H2) → k vs H Q) : EvX A C b ps (fun σ H Q => t σ H fun vs H1 => k vs H1 Q) z C2 :=
  fun σ H G s x w l Q q => h σ H G s x w l _ fun vs H1 e1 w1 r1 => hk vs H1 (ext G H H1) (extX_sub s x e1) (extX_out w w1 x) w1 r1 Q fun v H2 e2 w2 r2 => q v H2 (e1.trans e2) w2 (r2.same (extX_ext s x w e1 w1 e2))
theorem evx_tup (h : EaX A C b ps t ds C1) (hl : ds.length ≤ 100000) : EvX A C b ps (tTup t) (.tup ds) C1 :=
  evx_args h fun vs H G sub x w r Q q => ⟨sz_of (by rw [r.len]; exact hl), fun p hp => q _ _ (.of (same_upd hp)) (w.same (same_upd hp)) (r_newT sub hp r)⟩
theorem evx_lst (h : EaX A C b ps t ds C1) (hl : ds.length ≤ 100000) : EvX A C b ps (tLst t) (.lst ds) C1 :=
  evx_args h fun vs H G sub x w r Q q => ⟨sz_of (by rw [r.len]; exact hl), fun p hp => q _ _ (.of (same_upd hp)) (w.same (same_upd hp)) (r_newL sub hp r)⟩
/-- a builtin that answers by its arguments -/
theorem evx_cb {r : List V → Hp → VK → Prop} {z : D} (h : EaX A C b ps t ds C1) (hr : ∀ vs H G, Sub G H → RL b G vs ds → ∀ Q : VK, (∀ v H2, Same H H2 → R b (ext G H H2) v z → Q v H2) → r vs H Q) : EvX A C b ps (tCB r t) z C1 :=
  evx_args h fun vs H G sub x w rl Q q => hr vs H G sub rl Q fun v H2 e r => q v H2 (.of e) (w.same e) r
theorem ev_cb {r : List V → Hp → VK → Prop} {z : D} (h : EaP b ps t ds) (hr : ∀ vs H G, Sub G H → RL b G vs ds → ∀ Q : VK, (∀ v H2, Same H H2 → R b (ext G H H2) v z → Q v H2) → r vs H Q) : EvP b ps (tCB r t) z :=
  ev_args (k := r) h hr
end

/-! ### sources -/
/-- J goes through ds: G the part of the heap in which they live -/
def Walk (b : Bool) (J : It) (G : Hp) (ds : List D) : Prop := ∀ (i : Nat) (H : Hp), Sub G H → (i < ds.length → J.go i H ∧ ∀ x H', J.yld i H x H' → Same H H' ∧ ∃ d, ds[i]? = some d ∧ R b (ext G H H') x d) ∧ (ds.length ≤ i → J.stop i H)
def IvP (b : Bool) (ps : Ds) (wi : TI) (ds : List D) : Prop := ∀ (σ : L2.St) (H G : Hp), Sub G H → SL b G σ ps → ∀ Rr : It → Hp → Prop, (∀ J H2, Same H H2 → Walk b J (ext G H H2) ds → Rr J H2) → wi σ H Rr
section
variable {b : Bool} {ps : Ds} {te ta tb : TE} {t : TA} {d e : D} {ds es : List D} {K : PySem.W.Frag}
theorem IvP.is (h : IvP b ps (wi : TI) ds) (q : ds = es) : IvP b ps wi es := q ▸ h
theorem iv_rng {lo : Int} {n : Nat} {G : Hp} : Walk b (Itr lo n) G ((List.range n).map fun i => .int (lo + (i : Nat))) := fun i H s => by
  refine ⟨fun hi => ?_, fun hi => show n ≤ i by simpa using hi⟩
  have hi' : i < n := by simpa using hi
  refine ⟨hi', fun x H' ⟨e1, e2⟩ => ?_⟩
  subst e1 e2
  exact ⟨Same.refl _, _, by rw [List.getElem?_map, List.getElem?_range hi']; rfl, .int _⟩
theorem iv_rng1 {j : Int} {n : Nat} (h : EaP b ps t [.int j]) (hn : j.toNat = n) (hj : -1000000 ≤ j ∧ j ≤ 1000000 := by omega) : IvP b ps (iRng1 t) ((List.range n).map fun i => .int (0 + (i : Nat))) := fun σ H G s l Rr q => h σ H G s l _ fun vs H1 e1 r1 => by
  cases r1 with
  | cons r rr =>
    cases rr
    subst hn
    exact ⟨j, by rw [r.int_], by omega, by omega, q _ H1 e1 iv_rng⟩
theorem iv_rng2 {i j : Int} {n : Nat} (h : EaP b ps t [.int i, .int j]) (hn : (j - i).toNat = n) (hi : -1000000 ≤ i ∧ i ≤ 1000000 := by omega) (hj : -1000000 ≤ j ∧ j ≤ 1000000 := by omega) : IvP b ps (iRng2 t) ((List.range n).map fun k => .int (i + (k : Nat))) := fun σ H G s l Rr q => h σ H G s l _ fun vs H1 e1 r1 => by
  cases r1 with
  | cons r rr =>
    cases rr with
    | cons r2 rr =>
      cases rr
      subst hn
      exact ⟨i, j, by rw [r.int_, r2.int_], ⟨by omega, by omega, by omega, by omega⟩, q _ H1 e1 iv_rng⟩
theorem iv_rngC {lo c : Int} {n : Nat} {G : Hp} : Walk b (Itc lo c n) G ((List.range n).map fun i => .int (lo + (i : Nat) * c)) := fun i H s => by
  refine ⟨fun hi => ?_, fun hi => show n ≤ i by simpa using hi⟩
  have hi' : i < n := by simpa using hi
  refine ⟨hi', fun x H' ⟨e1, e2⟩ => ?_⟩
  subst e1 e2
  exact ⟨Same.refl _, _, by rw [List.getElem?_map, List.getElem?_range hi']; rfl, .int _⟩
/-- range(i, j, -1) -/
theorem iv_rng3 {i j : Int} {n : Nat} (h : EaP b ps t [.int i, .int j, .int (-1)]) (hn : (i - j).toNat = n) (hi : -1000000 ≤ i ∧ i ≤ 1000000 := by omega) (hj : -1000000 ≤ j ∧ j ≤ 1000000 := by omega) : IvP b ps (iRng3 t) ((List.range n).map fun k => .int (i + (k : Nat) * (-1))) := fun σ H G s l Rr q => h σ H G s l _ fun vs H1 e1 r1 => by
  cases r1 with
  | cons r rr =>
    cases rr with
    | cons r2 rr =>
      cases rr with
      | cons r3 rr =>
        cases rr
        subst hn
        exact ⟨i, j, -1, _, by rw [r.int_, r2.int_, r3.int_], RgC.neg (by omega) (by omega) (by omega) (by omega), q _ H1 e1 iv_rngC⟩
theorem R.up {G H H' : Hp} {v : V} (s : Sub G H) (e : Same H H') (r : R b G v d) : R b (ext G H H') v d := r.same (ext_ge s e)
theorem iv_tup (h : EvP b ps te (.tup ds)) : IvP b ps (iTup K te) ds := fun σ H G s l Rr q => h σ H G s l _ fun x H1 e1 r1 => by
  obtain ⟨a, vs, rfl, ea, rl⟩ := r1.tup_
  refine ⟨a, rfl, ⟨vs, SqT.of (ext_sub s e1 _ _ ea)⟩, q _ H1 e1 fun i H2 s2 => ⟨fun hi => ?_, fun hi => ⟨vs, SqT.of (s2 _ _ ea), by rw [rl.len]; exact hi⟩⟩⟩
  obtain ⟨v, e, r⟩ := rl.get (List.getElem?_eq_getElem hi)
  refine ⟨⟨vs, v, SqT.of (s2 _ _ ea), e⟩, fun x H' ⟨e1, e2⟩ => ?_⟩
  subst e1
  have e3 := e2 vs (SqT.of (s2 _ _ ea))
  rw [e] at e3
  cases e3
  exact ⟨Same.refl _, _, List.getElem?_eq_getElem hi, r.up s2 (Same.refl _)⟩
theorem iv_lst (h : EvP b ps te (.lst ds)) : IvP b ps (iList K te) ds := fun σ H G s l Rr q => h σ H G s l _ fun x H1 e1 r1 => by
  obtain ⟨a, vs, rfl, ea, rl⟩ := r1.lst_
  refine ⟨a, rfl, ⟨vs, SqL.of (ext_sub s e1 _ _ ea)⟩, q _ H1 e1 fun i H2 s2 => ⟨fun hi => ?_, fun hi => ⟨vs, SqL.of (s2 _ _ ea), by rw [rl.len]; exact hi⟩⟩⟩
  obtain ⟨v, e, r⟩ := rl.get (List.getElem?_eq_getElem hi)
  refine ⟨⟨vs, v, SqL.of (s2 _ _ ea), e⟩, fun x H' ⟨e1, e2⟩ => ?_⟩
  subst e1
  have e3 := e2 vs (SqL.of (s2 _ _ ea))
  rw [e] at e3
  cases e3
  exact ⟨Same.refl _, _, List.getElem?_eq_getElem hi, r.up s2 (Same.refl _)⟩
/-- the pairs (i, item) -/
def enumD (ds : List D) : List D := ds.zipIdx.map fun p => .tup [.int (p.2 : Nat), p.1]
theorem enumD_get {ds : List D} {i : Nat} {d : D} (h : ds[i]? = some d) : (enumD ds)[i]? = some (.tup [.int (i : Nat), d]) := by
  unfold enumD
  rw [List.getElem?_map, List.getElem?_zipIdx, h]
  simp
theorem enumD_len (ds : List D) : (enumD ds).length = ds.length := by unfold enumD; simp
theorem r_pair {G H : Hp} {T : Addr} {x y : V} (s : Sub G H) (hT : H T = none) (rx : R b G x d) (ry : R b G y e) : R b (ext G H (upd H T (.tup [x, y]))) (.ref T) (.tup [d, e]) :=
  .tup (ext_tup upd_same) (.cons (rx.up s (same_upd hT)) (.cons (ry.up s (same_upd hT)) .nil))
theorem iv_enumT (h : EaP b ps t [.tup ds]) : IvP b ps (iEnumT K t) (enumD ds) := fun σ H G s l Rr q => h σ H G s l _ fun vs H1 e1 r1 => by
  cases r1 with
  | cons r1 rr =>
    cases rr
    obtain ⟨a, vs, rfl, ea, rl⟩ := r1.tup_
    refine ⟨a, vs, rfl, SqT.of (ext_sub s e1 _ _ ea), q _ H1 e1 fun i H2 s2 => ⟨fun hi => ?_, fun hi => ⟨vs, SqT.of (s2 _ _ ea), by rw [rl.len, ← enumD_len]; exact hi⟩⟩⟩
    rw [enumD_len] at hi
    obtain ⟨v, e, r⟩ := rl.get (List.getElem?_eq_getElem hi)
    refine ⟨⟨vs, v, SqT.of (s2 _ _ ea), e⟩, fun x H' ⟨T, y, ex, hT, eH, ey⟩ => ?_⟩
    subst ex eH
    have e3 := ey vs (SqT.of (s2 _ _ ea))
    rw [e] at e3
    cases e3
    exact ⟨same_upd hT, _, enumD_get (List.getElem?_eq_getElem hi), r_pair s2 hT (.int _) r⟩
theorem iv_enumL (h : EaP b ps t [.lst ds]) : IvP b ps (iEnum K t) (enumD ds) := fun σ H G s l Rr q => h σ H G s l _ fun vs H1 e1 r1 => by
  cases r1 with
  | cons r1 rr =>
    cases rr
    obtain ⟨a, vs, rfl, ea, rl⟩ := r1.lst_
    refine ⟨a, vs, rfl, SqL.of (ext_sub s e1 _ _ ea), q _ H1 e1 fun i H2 s2 => ⟨fun hi => ?_, fun hi => ⟨vs, SqL.of (s2 _ _ ea), by rw [rl.len, ← enumD_len]; exact hi⟩⟩⟩
    rw [enumD_len] at hi
    obtain ⟨v, e, r⟩ := rl.get (List.getElem?_eq_getElem hi)
    refine ⟨⟨vs, v, SqL.of (s2 _ _ ea), e⟩, fun x H' ⟨T, y, ex, hT, eH, ey⟩ => ?_⟩
    subst ex eH
    have e3 := ey vs (SqL.of (s2 _ _ ea))
    rw [e] at e3
    cases e3
    exact ⟨same_upd hT, _, enumD_get (List.getElem?_eq_getElem hi), r_pair s2 hT (.int _) r⟩
def zipD (ds es : List D) : List D := (ds.zip es).map fun p => .tup [p.1, p.2]
theorem zipD_get {ds es : List D} {i : Nat} {d e : D} (h : ds[i]? = some d) (h2 : es[i]? = some e) : (zipD ds es)[i]? = some (.tup [d, e]) := by
  unfold zipD
  rw [List.getElem?_map, (List.getElem?_zip_eq_some (z := (d, e))).mpr ⟨h, h2⟩] <;> rfl
theorem zipD_len (ds es : List D) : (zipD ds es).length = min ds.length es.length := by unfold zipD; simp
theorem iv_enumZ (h : EaP b ps t [.tup ds, .tup es]) : IvP b ps (iEnumZ K t) (enumD (zipD ds es)) := fun σ H G s l Rr q => h σ H G s l _ fun vs H1 e1 r1 => by
  cases r1 with
  | cons r1 rr =>
    cases rr with
    | cons r2 rr =>
    cases rr
    obtain ⟨a, vs, rfl, ea, rl⟩ := r1.tup_
    obtain ⟨c, ws, rfl, ec, rm⟩ := r2.tup_
    have l1 := rl.len
    have l2 := rm.len
    refine ⟨a, c, vs, ws, rfl, SqT.of (ext_sub s e1 _ _ ea), SqT.of (ext_sub s e1 _ _ ec), q _ H1 e1 fun i H2 s2 => ⟨fun hi => ?_, fun hi => ⟨vs, ws, SqT.of (s2 _ _ ea), SqT.of (s2 _ _ ec), by rw [enumD_len, zipD_len] at hi; omega⟩⟩⟩
    rw [enumD_len, zipD_len] at hi
    have hi1 : i < ds.length := by omega
    have hi2 : i < es.length := by omega
    obtain ⟨v, e, r⟩ := rl.get (List.getElem?_eq_getElem hi1)
    obtain ⟨w, e', r'⟩ := rm.get (List.getElem?_eq_getElem hi2)
    refine ⟨⟨vs, ws, v, w, SqT.of (s2 _ _ ea), SqT.of (s2 _ _ ec), e, e'⟩, fun x H' ⟨T, T1, y, z, ex, nT, hT, hT1, eH, ey, ez⟩ => ?_⟩
    subst ex eH
    have e3 := ey vs (SqT.of (s2 _ _ ea))
    have e4 := ez ws (SqT.of (s2 _ _ ec))
    rw [e] at e3
    rw [e'] at e4
    cases e3
    cases e4
    have m1 : Same H2 (upd H2 T1 (.tup [v, w])) := same_upd hT1
    have m2 : Same (upd H2 T1 (.tup [v, w])) (upd (upd H2 T1 (.tup [v, w])) T (.tup [.int (i : Nat), .ref T1])) := same_upd (by rw [upd_ne nT.symm]; exact hT)
    refine ⟨m1.trans m2, _, enumD_get (zipD_get (List.getElem?_eq_getElem hi1) (List.getElem?_eq_getElem hi2)), ?_⟩
    exact .tup (ext_tup upd_same) (.cons (.int _) (.cons (.tup (ext_tup (m2 _ _ upd_same)) (.cons (r.up s2 (m1.trans m2)) (.cons (r'.up s2 (m1.trans m2)) .nil))) .nil))
theorem iv_zipT (h : EaP b ps t [.tup ds, .tup es]) : IvP b ps (RZ.iZipA K t) (zipD ds es) := fun σ H G s l Rr q => h σ H G s l _ fun vs H1 e1 r1 => by
  cases r1 with
  | cons r1 rr =>
    cases rr with
    | cons r2 rr =>
    cases rr
    obtain ⟨a, vs, rfl, ea, rl⟩ := r1.tup_
    obtain ⟨c, ws, rfl, ec, rm⟩ := r2.tup_
    have l1 := rl.len
    have l2 := rm.len
    refine ⟨a, c, vs, ws, rfl, .inr ⟨SqT.of (ext_sub s e1 _ _ ea), SqT.of (ext_sub s e1 _ _ ec), q _ H1 e1 fun i H2 s2 => ⟨fun hi => ?_, fun hi => ⟨vs, ws, SqT.of (s2 _ _ ea), SqT.of (s2 _ _ ec), by rw [zipD_len] at hi; omega⟩⟩⟩⟩
    rw [zipD_len] at hi
    have hi1 : i < ds.length := by omega
    have hi2 : i < es.length := by omega
    obtain ⟨v, e, r⟩ := rl.get (List.getElem?_eq_getElem hi1)
    obtain ⟨w, e', r'⟩ := rm.get (List.getElem?_eq_getElem hi2)
    refine ⟨⟨vs, ws, v, w, SqT.of (s2 _ _ ea), SqT.of (s2 _ _ ec), e, e'⟩, fun x H' ⟨T, y, z, ex, hT, eH, ey, ez⟩ => ?_⟩
    subst ex eH
    have e3 := ey vs (SqT.of (s2 _ _ ea))
    have e4 := ez ws (SqT.of (s2 _ _ ec))
    rw [e] at e3
    rw [e'] at e4
    cases e3
    cases e4
    exact ⟨same_upd hT, _, zipD_get (List.getElem?_eq_getElem hi1) (List.getElem?_eq_getElem hi2), r_pair s2 hT r r'⟩
theorem iv_zipL (h : EaP b ps t [.lst ds, .lst es]) : IvP b ps (RZ.iZipA K t) (zipD ds es) := fun σ H G s l Rr q => h σ H G s l _ fun vs H1 e1 r1 => by
  cases r1 with
  | cons r1 rr =>
    cases rr with
    | cons r2 rr =>
    cases rr
    obtain ⟨a, vs, rfl, ea, rl⟩ := r1.lst_
    obtain ⟨c, ws, rfl, ec, rm⟩ := r2.lst_
    have l1 := rl.len
    have l2 := rm.len
    refine ⟨a, c, vs, ws, rfl, .inl ⟨SqL.of (ext_sub s e1 _ _ ea), SqL.of (ext_sub s e1 _ _ ec), q _ H1 e1 fun i H2 s2 => ⟨fun hi => ?_, fun hi => ⟨vs, ws, SqL.of (s2 _ _ ea), SqL.of (s2 _ _ ec), by rw [zipD_len] at hi; omega⟩⟩⟩⟩
    rw [zipD_len] at hi
    have hi1 : i < ds.length := by omega
    have hi2 : i < es.length := by omega
    obtain ⟨v, e, r⟩ := rl.get (List.getElem?_eq_getElem hi1)
    obtain ⟨w, e', r'⟩ := rm.get (List.getElem?_eq_getElem hi2)
    refine ⟨⟨vs, ws, v, w, SqL.of (s2 _ _ ea), SqL.of (s2 _ _ ec), e, e'⟩, fun x H' ⟨T, y, z, ex, hT, eH, ey, ez⟩ => ?_⟩
    subst ex eH
    have e3 := ey vs (SqL.of (s2 _ _ ea))
    have e4 := ez ws (SqL.of (s2 _ _ ec))
    rw [e] at e3
    rw [e'] at e4
    cases e3
    cases e4
    exact ⟨same_upd hT, _, zipD_get (List.getElem?_eq_getElem hi1) (List.getElem?_eq_getElem hi2), r_pair s2 hT r r'⟩
/-! a locked dict -/
theorem RK.get : ∀ {H : Hp} {kvs : List (List Key × V)} {ks : List (List Int × D)} {i : Nat} {k : List Int} {d : D}, RK b H kvs ks → ks[i]? = some (k, d) → ∃ v, kvs[i]? = some (k.map Sum.inl, v) ∧ R b H v d
  | _, _, _, _, _, _, .nil, e => by simp at e
  | _, _, _, 0, _, _, .cons r _, e => by
    simp at e
    obtain ⟨rfl, rfl⟩ := e
    exact ⟨_, rfl, r⟩
  | _, _, _, i + 1, _, _, .cons _ l, e => by
    obtain ⟨v, h1, h2⟩ := RK.get (i := i) l (by simpa using e)
    exact ⟨v, by simpa using h1, h2⟩
theorem RK.len : ∀ {H : Hp} {kvs : List (List Key × V)} {ks : List (List Int × D)}, RK b H kvs ks → kvs.length = ks.length
  | _, _, _, .nil => rfl
  | _, _, _, .cons _ l => congrArg (· + 1) l.len
def keyD (k : List Int) : D := .tup (k.map .int)
theorem kV_ints (k : List Int) : (k.map Sum.inl).map kV = k.map V.int := by
  rw [List.map_map]
  rfl
theorem r_key {G : Hp} {q : Addr} {k : List Int} (h : G q = some (.tup ((k.map Sum.inl).map kV))) : R b G (.ref q) (keyD k) := by
  rw [kV_ints] at h
  exact .tup h (RL.of_ints k)
theorem iv_keys {ks : List (List Int × D)} (h : EvP b ps te (.lkd ks)) : IvP b ps (iKeys te) (ks.map fun p => keyD p.1) := fun σ H G s l Rr q => h σ H G s l _ fun x H1 e1 r1 => by
  obtain ⟨a, o, kvs, rfl, ea, rk⟩ := r1.lkd_
  have hl := rk.len
  refine ⟨a, o, rfl, .inr ⟨kvs, ext_sub s e1 _ _ ea, q _ H1 e1 fun i H2 s2 => ⟨fun hi => ?_, fun hi => ⟨s2 _ _ ea, by rw [List.length_map] at hi; omega⟩⟩⟩⟩
  rw [List.length_map] at hi
  refine ⟨⟨s2 _ _ ea, by omega⟩, fun x H' ⟨e1, k, v, p, ek, ex, ep⟩ => ?_⟩
  subst e1 ex
  obtain ⟨v', e2, _⟩ := rk.get (List.getElem?_eq_getElem hi)
  rw [ek] at e2
  cases e2
  refine ⟨Same.refl _, keyD ks[i].1, by rw [List.getElem?_map, List.getElem?_eq_getElem hi]; rfl, r_key ?_⟩
  exact ext_tup ep
theorem iv_vals {ks : List (List Int × D)} (h : EvP b ps te (.lkd ks)) : IvP b ps (iValsT te) (ks.map (·.2)) := fun σ H G s l Rr q => h σ H G s l _ fun x H1 e1 r1 => by
  obtain ⟨a, o, kvs, rfl, ea, rk⟩ := r1.lkd_
  have hl := rk.len
  refine ⟨a, o, kvs, rfl, ext_sub s e1 _ _ ea, q _ H1 e1 fun i H2 s2 => ⟨fun hi => ?_, fun hi => ⟨s2 _ _ ea, by rw [List.length_map] at hi; omega⟩⟩⟩
  rw [List.length_map] at hi
  refine ⟨⟨s2 _ _ ea, by omega⟩, fun x H' ⟨e1, k, ek⟩ => ?_⟩
  subst e1
  obtain ⟨v', e2, r⟩ := rk.get (List.getElem?_eq_getElem hi)
  rw [ek] at e2
  cases e2
  exact ⟨Same.refl _, ks[i].2, by rw [List.getElem?_map, List.getElem?_eq_getElem hi]; rfl, r.up s2 (Same.refl _)⟩
theorem iv_items {ks : List (List Int × D)} (h : EvP b ps te (.lkd ks)) : IvP b ps (iItemsT te) (ks.map fun p => .tup [keyD p.1, p.2]) := fun σ H G s l Rr q => h σ H G s l _ fun x H1 e1 r1 => by
  obtain ⟨a, o, kvs, rfl, ea, rk⟩ := r1.lkd_
  have hl := rk.len
  refine ⟨a, o, kvs, rfl, ext_sub s e1 _ _ ea, q _ H1 e1 fun i H2 s2 => ⟨fun hi => ?_, fun hi => ⟨s2 _ _ ea, by rw [List.length_map] at hi; omega⟩⟩⟩
  rw [List.length_map] at hi
  refine ⟨⟨s2 _ _ ea, by omega⟩, fun x H' ⟨T, k, v, p, ek, ep, ex, hT, eH⟩ => ?_⟩
  subst ex eH
  obtain ⟨v', e2, r⟩ := rk.get (List.getElem?_eq_getElem hi)
  rw [ek] at e2
  cases e2
  have m : Same H2 (upd H2 T (.tup [.ref p, v])) := same_upd hT
  exact ⟨m, .tup [keyD ks[i].1, ks[i].2], by rw [List.getElem?_map, List.getElem?_eq_getElem hi]; rfl, .tup (ext_tup upd_same) (.cons (r_key (ext_tup (m _ _ ep))) (.cons (r.up s2 m) .nil))⟩
end

/-! ### targets; vs: the slots that they set -/
def GdP (b : Bool) (ps : Ds) (g : TG) (d : D) (qs : Ds) (vs : List Nat) : Prop := ∀ (x : V) (σ : L2.St) (H G : Hp), Sub G H → SL b G σ ps → R b G x d → ∀ Q : L2.St → Hp → Prop, (∀ σ', SL b G σ' qs → wipe σ' vs = wipe σ vs → Q σ' H) → g x σ H Q
def GsP (b : Bool) (ps : Ds) (g : TGs) (ds : List D) (qs : Ds) (vs : List Nat) : Prop := ∀ (xs : List V) (σ : L2.St) (H G : Hp), Sub G H → SL b G σ ps → RL b G xs ds → ∀ Q : L2.St → Hp → Prop, (∀ σ', SL b G σ' qs → wipe σ' vs = wipe σ vs → Q σ' H) → g xs σ H Q
section
variable {b : Bool} {ps qs rs : Ds} {d : D} {ds : List D} {vs : List Nat} {K : PySem.W.Frag}
theorem gd_name {i : Nat} (h : i ∈ vs := by simp) : GdP b ps (gName i) d (ps.set i (some d)) vs := fun x σ H G s l r Q q => q _ (l.set i r) (wipe_set h)
theorem gs_nil : GsP b ps gNil [] ps vs := fun xs σ H G s l r Q q => by
  cases r
  exact ⟨rfl, q _ l rfl⟩
theorem gs_cons {g : TG} {gs : TGs} (h : GdP b ps g d qs vs) (hs : GsP b qs gs ds rs vs) : GsP b ps (gCons g gs) (d :: ds) rs vs := fun xs σ H G s l r Q q => by
  cases r with
  | cons r rr => exact ⟨_, _, rfl, h _ σ H G s l r _ fun σ' l' w' => hs _ σ' H G s l' rr Q fun σ2 l2 w2 => q σ2 l2 (w2.trans w')⟩
theorem gd_tup {gs : TGs} {n : Nat} (h : GsP b ps gs ds qs vs) (hn : ds.length = n := by rfl) : GdP b ps (gTup K n gs) (.tup ds) qs vs := fun x σ H G s l r Q q => by
  obtain ⟨a, xs, rfl, ea, rl⟩ := r.tup_
  exact ⟨a, xs, rfl, SqT.of (s _ _ ea), by rw [rl.len]; exact hn, h xs σ H G s l rl Q q⟩
end

/-! ### list comprehensions -/
theorem evx_lc {A : List Addr} {b : Bool} {ps : Ds} {wi : TI} {g : TG} {tt : TT} {te : TE} {vs : List Nat} {items : List D} (Cs Cm : Nat → Hp) (qs : Nat → Ds) (keep : Nat → Bool) (out : Nat → D) (outs : Nat → List D)
    (hi : IvP b ps wi items) (hg : ∀ i d, items[i]? = some d → GdP b (wipeP ps vs) g d (qs i) vs)
    (ht : ∀ i, i < items.length → EtX A (Cs i) b (qs i) tt (keep i) (Cm i))
    (he : ∀ i, i < items.length → keep i = true → EvX A (Cm i) b (qs i) te (out i) (Cs (i + 1)) ∧ outs (i + 1) = outs i ++ [out i])
    (hn : ∀ i, i < items.length → keep i = false → Cm i = Cs (i + 1) ∧ outs (i + 1) = outs i) (h0 : outs 0 = []) (hlen : items.length ≤ 100000) :
    EvX A (Cs 0) b ps (tLc wi g tt te vs) (.lst (outs items.length)) (Cs items.length) := fun σ H G s x w l Q q =>
  hi σ H G s l _ fun J H1 e1 walk D hD => by
  have hD0 : H D = none := Same.free e1 hD
  have w1 : Own A (Cs 0) H1 := w.same e1
  have s1 : Sub (ext G H H1) H1 := ext_sub s e1
  have x1 : Out A (ext G H H1) := extX_out w w1 x
  have hDA : D ∉ A := fun m => by
    obtain ⟨o, _, i, _⟩ := w1 D m
    rw [hD] at i; cases i
  have len_outs : ∀ i, i ≤ items.length → (outs i).length ≤ i := fun i => by
    induction i with
    | zero => intro _; rw [h0]; exact Nat.le_refl _
    | succ i ih =>
      intro hi
      cases hk : keep i with
      | true =>
        rw [(he i hi hk).2, List.length_append]
        exact Nat.succ_le_succ (ih (Nat.le_of_lt hi))
      | false =>
        rw [(hn i hi hk).2]
        exact Nat.le_succ_of_le (ih (Nat.le_of_lt hi))
  refine ⟨fun i m Hc => m = items.length - i ∧ i ≤ items.length ∧ SameX A H1 Hc ∧ Own A (Cs i) Hc ∧ ∃ acc, Hc D = some (.lst acc) ∧ RL b (hid [D] (ext (ext G H H1) H1 Hc)) acc (outs i),
    ⟨items.length, by simp, Nat.zero_le _, .of (same_upd hD), w1.same (same_upd hD), [], upd_same, by rw [h0]; exact .nil⟩, ?_⟩
  rintro i m Hc ⟨rfl, hle, ec, wc, acc, ha, racc⟩
  have sc : Sub (ext G H H1) Hc := fun a o h => ec a o (fun mm => by rw [x1 a mm] at h; cases h) (s1 a o h)
  by_cases hlt : i < items.length
  · obtain ⟨hgo, hy⟩ := (walk i Hc sc).1 hlt
    refine .inr ⟨hgo, fun H' => SameX A H1 H' ∧ Own A (Cs (i + 1)) H' ∧ ∃ acc, H' D = some (.lst acc) ∧ RL b (hid [D] (ext (ext G H H1) H1 H')) acc (outs (i + 1)), fun H' ⟨z1, z2, z3⟩ => ⟨items.length - (i + 1), by omega, rfl, hlt, z1, z2, z3⟩, fun y H2 hyl => ?_⟩
    obtain ⟨e2, d, hd, rd⟩ := hy y H2 hyl
    have ec2 : SameX A H1 H2 := ec.trans (.of e2)
    have wc2 : Own A (Cs i) H2 := wc.same e2
    have ha2 : H2 D = some (.lst acc) := e2 _ _ ha
    have s2 : Sub (hid [D] (ext (ext G H H1) H1 H2)) H2 := fun a o h => extX_sub s1 x1 ec2 _ _ (hid_sub _ _ h)
    have x2 : Out A (hid [D] (ext (ext G H H1) H1 H2)) := fun a m => by
      have z := extX_out (H2 := H2) w1 wc2 x1 a m
      unfold hid
      by_cases q : a ∈ [D]
      · rw [if_pos q]
      · rw [if_neg q]; exact z
    have up1 : ∀ {a o}, ext G H H1 a = some o → hid [D] (ext (ext G H H1) H1 H2) a = some o := fun {a o} h => by
      rw [hid_out (fun mm => by
        have : a = D := by simpa using mm
        rw [this] at h
        rw [s1 _ _ h] at hD; cases hD)]
      exact extX_ge s1 x1 ec2 _ _ h
    have rd2 : R b (hid [D] (ext (ext G H H1) H1 H2)) y d := rd.same fun a o h => by
      have nD : a ∉ [D] := fun mm => by
        have e : a = D := by simpa using mm
        rw [e] at h
        rcases ext_cases h with ⟨⟨vs, rfl⟩, h⟩ | ⟨h1, _⟩ | ⟨_, h⟩
        · rw [ha2] at h; cases h
        · rw [ha] at h1; cases h1
        · rw [s1 _ _ h] at hD; cases hD
      rcases ext_cases h with ⟨⟨vs, rfl⟩, h⟩ | ⟨h1, h⟩ | ⟨_, h⟩
      · rw [hid_out nD]; exact ext_tup h
      · rw [hid_out nD]; exact ext_new (free_in ec wc h1) h
      · exact up1 h
    have sl2 : SL b (hid [D] (ext (ext G H H1) H1 H2)) (wipe σ vs) (wipeP ps vs) := (l.wipe vs).same fun a o h => up1 (ext_ge s e1 _ _ h)
    refine hg i d hd y (wipe σ vs) H2 _ s2 sl2 rd2 _ fun σ2 l2 hw2 => ⟨hw2.trans (wipe_wipe σ vs vs fun v hv => hv), ?_⟩
    refine ht i hlt σ2 H2 _ s2 x2 wc2 l2 _ fun H3 e3 w3 => ?_
    have ha3 : H3 D = some (.lst acc) := e3 _ _ hDA ha2
    have ec3 : SameX A H1 H3 := ec2.trans e3
    have grow : ∀ {H' H'' : Hp}, SameX A H1 H' → SameX A H' H'' → (∃ C', Own A C' H') → ∀ {acc' : List V} {es : List SP.D}, RL b (hid [D] (ext (ext G H H1) H1 H')) acc' es → RL b (hid [D] (ext (ext G H H1) H1 H'')) acc' es := fun {H' H''} k1 k2 ⟨C', wo⟩ {acc' es} r => r.same fun a o h => by
      by_cases mm : a ∈ [D]
      · rw [hid_in mm] at h; cases h
      · rw [hid_out mm] at h ⊢
        rcases ext_cases h with ⟨⟨vs, rfl⟩, h⟩ | ⟨h1, h⟩ | ⟨n, h⟩
        · refine ext_tup (k2 _ _ (fun ma => ?_) h)
          obtain ⟨o, _, i, nt⟩ := wo a ma
          rw [h] at i; cases i; exact nt
        · refine ext_new h1 (k2 _ _ (fun ma => ?_) h)
          obtain ⟨o, _, i, nt⟩ := w1 a ma
          rw [h1] at i; cases i
        · exact extX_ge s1 x1 (k1.trans k2) _ _ h
    cases hk : keep i with
    | false =>
      obtain ⟨c1, c2⟩ := hn i hlt hk
      rw [if_neg (by decide)]
      refine ⟨ec3, by rw [← c1]; exact w3, acc, ha3, by rw [c2]; exact grow ec (SameX.trans (.of e2) e3) ⟨_, wc⟩ racc⟩
    | true =>
      obtain ⟨c1, c2⟩ := he i hlt hk
      rw [if_pos rfl]
      have s3 : Sub (ext (hid [D] (ext (ext G H H1) H1 H2)) H2 H3) H3 := extX_sub s2 x2 e3
      refine c1 σ2 H3 (ext (hid [D] (ext (ext G H H1) H1 H2)) H2 H3) s3 (extX_out wc2 w3 x2) w3 (l2.same (extX_ge s2 x2 e3)) _ fun z H4 e4 w4 r4 => ?_
      have ha4 : H4 D = some (.lst acc) := e4 _ _ hDA ha3
      have racc4 := grow (acc' := acc) (es := outs i) ec (SameX.trans (SameX.trans (.of e2) e3) e4) ⟨_, wc⟩ racc
      have rz : R b (hid [D] (ext (ext G H H1) H1 H4)) z (out i) := r4.same fun a o h => by
        have h' := extX_ext s2 x2 wc2 e3 w3 e4 _ _ h
        have nD : a ∉ [D] := fun mm => by
          have e : a = D := by simpa using mm
          rw [e] at h'
          rcases ext_cases h' with ⟨⟨vs, rfl⟩, h⟩ | ⟨h1, _⟩ | ⟨_, h⟩
          · rw [ha4] at h; cases h
          · rw [ha2] at h1; cases h1
          · rw [hid_in (List.mem_singleton.mpr rfl)] at h; cases h
        rw [hid_out nD]
        rcases ext_cases h' with ⟨⟨vs, rfl⟩, h⟩ | ⟨h1, h⟩ | ⟨_, h⟩
        · exact ext_tup h
        · exact ext_new (free_in ec2 wc2 h1) h
        · rw [hid_out nD] at h
          rcases ext_cases h with ⟨⟨vs, rfl⟩, h⟩ | ⟨h1, h⟩ | ⟨_, h⟩
          · refine ext_tup ((e3.trans e4) _ _ (fun ma => ?_) h)
            obtain ⟨o, _, i, nt⟩ := wc2 a ma
            rw [h] at i; cases i; exact nt
          · refine ext_new h1 ((e3.trans e4) _ _ (fun ma => ?_) h)
            obtain ⟨o, _, i, nt⟩ := w1 a ma
            rw [h1] at i; cases i
          · exact extX_ge s1 x1 (ec2.trans (e3.trans e4)) _ _ h
      have hacc : acc.length < 2 ^ 24 := by
        rw [racc.len]
        have := len_outs i hle
        omega
      have hidu : hid [D] (ext (ext G H H1) H1 (upd H4 D (.lst (acc ++ [z])))) = hid [D] (ext (ext G H H1) H1 H4) := by
        funext a
        unfold hid
        by_cases mm : a ∈ [D]
        · rw [if_pos mm, if_pos mm]
        · rw [if_neg mm, if_neg mm]
          unfold ext
          rw [upd_ne (fun e => mm (by rw [e]; exact List.mem_singleton.mpr rfl))]
      refine ⟨acc, ha4, by unfold sizeLine; exact hacc, fun a o ma h => ?_, fun a ma => ?_, acc ++ [z], upd_same, by rw [c2, hidu]; exact racc4.append (.one rz)⟩
      · rw [upd_ne (fun e => by rw [e, hD] at h; cases h)]
        exact (ec3.trans e4) a o ma h
      · obtain ⟨o, c, i, nt⟩ := w4 a ma
        exact ⟨o, c, by rw [upd_ne (fun e => hDA (by rw [← e]; exact ma))]; exact i, nt⟩
  · have e : i = items.length := by omega
    subst e
    refine .inl ⟨(walk _ Hc sc).2 (Nat.le_refl _), q _ Hc (SameX.trans (.of e1) ec) wc ?_⟩
    refine .lst (ext_new hD0 ha) (racc.same fun a o h => ?_)
    have h' := hid_sub _ _ h
    exact extX_ext s x w (.of e1) w1 ec _ _ h'
/-- .. of pure parts -/
theorem ev_lc {α : Type} {b : Bool} {ps : Ds} {wi : TI} {g : TG} {tt : TT} {te : TE} {vs : List Nat} (xs : List α) (enc : α → D) (qs : α → Ds) (p : α → Bool) (out : α → D) {r : D} (hr : r = .lst ((xs.filter p).map out)) (hlen : xs.length ≤ 100000)
    (hi : IvP b ps wi (xs.map enc)) (hg : ∀ x ∈ xs, GdP b (wipeP ps vs) g (enc x) (qs x) vs) (ht : ∀ x ∈ xs, EtP b (qs x) tt (p x)) (he : ∀ x ∈ xs, p x = true → EvP b (qs x) te (out x)) :
    EvP b ps (tLc wi g tt te vs) r := by
  subst hr
  by_cases hx : xs = []
  · subst hx
    have z := evx_lc (A := []) (b := b) (ps := ps) (wi := wi) (g := g) (tt := tt) (te := te) (vs := vs) (items := []) (fun _ => (fun _ => none)) (fun _ => (fun _ => none)) (fun _ => ps) (fun _ => true) (fun _ => .non) (fun _ => []) hi (fun i d h => by simp at h) (fun i h => absurd h (Nat.not_lt_zero _)) (fun i h => absurd h (Nat.not_lt_zero _)) (fun i h => absurd h (Nat.not_lt_zero _)) rfl (Nat.zero_le _)
    exact z.p
  · obtain ⟨x0, xs0, rfl⟩ := List.exists_cons_of_ne_nil hx
    let at' : Nat → α := fun i => (x0 :: xs0).getD i x0
    have hat : ∀ i, i < (x0 :: xs0).length → (x0 :: xs0)[i]? = some (at' i) ∧ at' i ∈ x0 :: xs0 := fun i h => by
      have e : (x0 :: xs0)[i]? = some (at' i) := by
        show _ = some ((x0 :: xs0).getD i x0)
        rw [List.getD_eq_getElem?_getD, List.getElem?_eq_getElem h]; rfl
      exact ⟨e, List.mem_of_getElem? e⟩
    have z := evx_lc (A := []) (b := b) (ps := ps) (wi := wi) (g := g) (tt := tt) (te := te) (vs := vs) (items := (x0 :: xs0).map enc) (fun _ => (fun _ => none)) (fun _ => (fun _ => none)) (fun i => qs (at' i)) (fun i => p (at' i)) (fun i => out (at' i)) (fun i => (((x0 :: xs0).take i).filter p).map out) hi (fun i d h => ?_) (fun i h => ?_) (fun i h hk => ?_) (fun i h hk => ?_) (by rw [List.take_zero]; rfl) (by rw [List.length_map]; exact hlen)
    · have z' := z.p
      simp only [List.length_map, List.take_length] at z'
      exact z'
    · rw [List.getElem?_map] at h
      obtain ⟨x, hx1, hx2⟩ := Option.map_eq_some_iff.mp h
      have hl := (List.getElem?_eq_some_iff.mp hx1).1
      have e := (hat i hl).1
      rw [hx1] at e
      have e := Option.some.inj e
      subst hx2
      show GdP b (wipeP ps vs) g (enc x) (qs (at' i)) vs
      rw [← e]
      exact hg x (List.mem_of_getElem? hx1)
    · rw [List.length_map] at h
      exact (ht _ (hat i h).2).x
    · rw [List.length_map] at h
      refine ⟨(he _ (hat i h).2 hk).x, ?_⟩
      have hk' : p (at' i) = true := hk
      rw [List.take_add_one, (hat i h).1, Option.toList_some, List.filter_append, List.map_append, List.filter_cons_of_pos hk']
      rfl
    · rw [List.length_map] at h
      refine ⟨rfl, ?_⟩
      have hk' : ¬ (p (at' i) = true) := by
        rw [hk]; decide
      rw [List.take_add_one, (hat i h).1, Option.toList_some, List.filter_append, List.map_append, List.filter_cons_of_neg hk']
      simp
theorem ev_lcA {α : Type} {b : Bool} {ps : Ds} {wi : TI} {g : TG} {te : TE} {vs : List Nat} (xs : List α) (enc : α → D) (qs : α → Ds) (out : α → D) {r : D} (hr : r = .lst (xs.map out)) (hlen : xs.length ≤ 100000)
    (hi : IvP b ps wi (xs.map enc)) (hg : ∀ x ∈ xs, GdP b (wipeP ps vs) g (enc x) (qs x) vs) (he : ∀ x ∈ xs, EvP b (qs x) te (out x)) :
    EvP b ps (tLc wi g tYes te vs) r := ev_lc xs enc qs (fun _ => true) out (by rw [hr, List.filter_eq_self.mpr (fun _ _ => rfl)]) hlen hi hg (fun _ _ => et_yes) fun x hx _ => he x hx
end SP
set_option Elab.async false
set_option linter.all false
set_option maxRecDepth 100000
/-! Stillpanes, part 8: builtins, dicts, ==, isinstance, calls, locks over data. -/
namespace SP
open PySem L2

section
variable {b : Bool} {ps : Ds} {te ta tb td ty : TE} {t : TA} {d e : D} {ds es : List D} {K : PySem.W.Frag} {i j k : Int}
theorem RL.one_ {b : Bool} {H : Hp} {vs : List V} {d : D} (r : RL b H vs [d]) : ∃ v, vs = [v] ∧ R b H v d := by
  cases r with
  | cons r rr => cases rr; exact ⟨_, rfl, r⟩
theorem RL.two_ {b : Bool} {H : Hp} {vs : List V} {d e : D} (r : RL b H vs [d, e]) : ∃ v w, vs = [v, w] ∧ R b H v d ∧ R b H w e := by
  cases r with
  | cons r rr =>
    obtain ⟨w, rfl, r2⟩ := rr.one_
    exact ⟨_, _, rfl, r, r2⟩
theorem RL.three_ {b : Bool} {H : Hp} {vs : List V} {d e f : D} (r : RL b H vs [d, e, f]) : ∃ v w u, vs = [v, w, u] ∧ R b H v d ∧ R b H w e ∧ R b H u f := by
  cases r with
  | cons r rr =>
    obtain ⟨w, u, rfl, r2, r3⟩ := rr.two_
    exact ⟨_, _, _, rfl, r, r2, r3⟩
abbrev rLenQ (K : PySem.W.Frag) : List V → Hp → VK → Prop := fun xs H Q => ∃ p ys, xs = [.ref p] ∧ (SqL K H p ys ∨ SqT K H p ys) ∧ Q (.int ys.length) H
theorem ev_lenT (h : EaP b ps t [.tup ds]) : EvP b ps (tCB (rLenQ K) t) (.int ds.length) := ev_cb h fun vs H G s rl Q q => by
  obtain ⟨v, rfl, r⟩ := rl.one_
  obtain ⟨a, vs, rfl, e, l⟩ := r.tup_
  exact ⟨a, vs, rfl, .inr (SqT.of (s _ _ e)), by rw [l.len]; exact q _ H (Same.refl H) (.int _)⟩
theorem ev_lenL (h : EaP b ps t [.lst ds]) : EvP b ps (tCB (rLenQ K) t) (.int ds.length) := ev_cb h fun vs H G s rl Q q => by
  obtain ⟨v, rfl, r⟩ := rl.one_
  obtain ⟨a, vs, rfl, e, l⟩ := r.lst_
  exact ⟨a, vs, rfl, .inl (SqL.of (s _ _ e)), by rw [l.len]; exact q _ H (Same.refl H) (.int _)⟩
abbrev rAbsQ : List V → Hp → VK → Prop := fun xs H Q => ∃ i, xs = [.int i] ∧ Q (.int (if i < 0 then -i else i)) H
theorem ev_abs (h : EaP b ps t [.int i]) : EvP b ps (tCB rAbsQ t) (.int (i.natAbs : Nat)) := ev_cb h fun vs H G s rl Q q => by
  obtain ⟨v, rfl, r⟩ := rl.one_
  refine ⟨i, by rw [r.int_], ?_⟩
  have e : (if i < 0 then -i else i) = ((i.natAbs : Nat) : Int) := by split <;> omega
  rw [e]
  exact q _ H (Same.refl H) (.int _)
abbrev rIntQ : List V → Hp → VK → Prop := fun xs H Q => (∃ i, xs = [.int i] ∧ Q (.int i) H) ∨ ∃ k, xs = [.bl k] ∧ Q (.int (if k then 1 else 0)) H
theorem ev_intI (h : EaP b ps t [.int i]) : EvP b ps (tCB rIntQ t) (.int i) := ev_cb h fun vs H G s rl Q q => by
  obtain ⟨v, rfl, r⟩ := rl.one_
  exact .inl ⟨i, by rw [r.int_], q _ H (Same.refl H) (.int _)⟩
theorem ev_intB {c : Bool} (h : EaP b ps t [.bl c]) : EvP b ps (tCB rIntQ t) (.int (if c = true then 1 else 0)) := ev_cb h fun vs H G s rl Q q => by
  obtain ⟨v, rfl, r⟩ := rl.one_
  exact .inr ⟨c, by rw [r.bl_], q _ H (Same.refl H) (.int _)⟩
theorem ev_sum {ns : List Int} (h : EaP b ps t [.lst (ns.map .int)]) : EvP b ps (tCB (rSum K) t) (.int ns.sum) := ev_cb h fun vs H G s rl Q q => by
  obtain ⟨v, rfl, r⟩ := rl.one_
  obtain ⟨a, vs, rfl, e, l⟩ := r.lst_
  exact ⟨a, ns, rfl, SqL.of (by rw [← l.ints]; exact s _ _ e), q _ H (Same.refl H) (.int _)⟩
theorem ev_any {bs : List Bool} (h : EaP b ps t [.lst (bs.map .bl)]) : EvP b ps (tCB (rAny K) t) (.bl (bs.any id)) := ev_cb h fun vs H G s rl Q q => by
  obtain ⟨v, rfl, r⟩ := rl.one_
  obtain ⟨a, vs, rfl, e, l⟩ := r.lst_
  exact ⟨a, bs, rfl, SqL.of (by rw [← l.bls]; exact s _ _ e), q _ H (Same.refl H) (.bl _)⟩
theorem ev_all {bs : List Bool} (h : EaP b ps t [.lst (bs.map .bl)]) : EvP b ps (tCB (rAll K) t) (.bl (bs.all id)) := ev_cb h fun vs H G s rl Q q => by
  obtain ⟨v, rfl, r⟩ := rl.one_
  obtain ⟨a, vs, rfl, e, l⟩ := r.lst_
  exact ⟨a, bs, rfl, SqL.of (by rw [← l.bls]; exact s _ _ e), q _ H (Same.refl H) (.bl _)⟩
/-- the greatest, the least of ints -/
def maxZ : List Int → Int
  | [] => 0
  | [x] => x
  | x :: r => max x (maxZ r)
def minZ : List Int → Int
  | [] => 0
  | [x] => x
  | x :: r => min x (minZ r)
theorem maxZ_is : ∀ {ns : List Int}, ns ≠ [] → maxZ ns ∈ ns ∧ ∀ y ∈ ns, y ≤ maxZ ns
  | [], h => absurd rfl h
  | [x], _ => ⟨by simp [maxZ], fun y hy => by simp at hy; rw [hy]; exact Int.le_refl _⟩
  | x :: y :: r, _ => by
    obtain ⟨h1, h2⟩ := maxZ_is (ns := y :: r) (by simp)
    show max x (maxZ (y :: r)) ∈ _ ∧ ∀ z ∈ _, z ≤ max x (maxZ (y :: r))
    refine ⟨?_, fun z hz => ?_⟩
    · rcases Int.le_total x (maxZ (y :: r)) with q | q
      · rw [Int.max_eq_right q]; exact List.mem_cons_of_mem _ h1
      · rw [Int.max_eq_left q]; exact List.mem_cons_self ..
    · rcases List.mem_cons.mp hz with q | q
      · rw [q]; omega
      · have := h2 z q; omega
theorem minZ_is : ∀ {ns : List Int}, ns ≠ [] → minZ ns ∈ ns ∧ ∀ y ∈ ns, minZ ns ≤ y
  | [], h => absurd rfl h
  | [x], _ => ⟨by simp [minZ], fun y hy => by simp at hy; rw [hy]; exact Int.le_refl _⟩
  | x :: y :: r, _ => by
    obtain ⟨h1, h2⟩ := minZ_is (ns := y :: r) (by simp)
    show min x (minZ (y :: r)) ∈ _ ∧ ∀ z ∈ _, min x (minZ (y :: r)) ≤ z
    refine ⟨?_, fun z hz => ?_⟩
    · rcases Int.le_total x (minZ (y :: r)) with q | q
      · rw [Int.min_eq_left q]; exact List.mem_cons_self ..
      · rw [Int.min_eq_right q]; exact List.mem_cons_of_mem _ h1
    · rcases List.mem_cons.mp hz with q | q
      · rw [q]; omega
      · have := h2 z q; omega
theorem ev_maxL {ns : List Int} (h : EaP b ps t [.lst (ns.map .int)]) (hn : ns ≠ []) : EvP b ps (tCB (rMax K) t) (.int (maxZ ns)) := ev_cb h fun vs H G s rl Q q => by
  obtain ⟨v, rfl, r⟩ := rl.one_
  obtain ⟨a, vs, rfl, e, l⟩ := r.lst_
  refine ⟨a, ns, rfl, SqL.of (by rw [← l.ints]; exact s _ _ e), List.length_pos_iff.mpr hn, fun m hm hy => ?_⟩
  have z := maxZ_is hn
  have : m = maxZ ns := Int.le_antisymm (z.2 m hm) (hy _ z.1)
  rw [this]
  exact q _ H (Same.refl H) (.int _)
theorem ev_minL {ns : List Int} (h : EaP b ps t [.lst (ns.map .int)]) (hn : ns ≠ []) : EvP b ps (tCB (rMin K) t) (.int (minZ ns)) := ev_cb h fun vs H G s rl Q q => by
  obtain ⟨v, rfl, r⟩ := rl.one_
  obtain ⟨a, vs, rfl, e, l⟩ := r.lst_
  refine ⟨a, ns, rfl, SqL.of (by rw [← l.ints]; exact s _ _ e), List.length_pos_iff.mpr hn, fun m hm hy => ?_⟩
  have z := minZ_is hn
  have : m = minZ ns := Int.le_antisymm (hy _ z.1) (z.2 m hm)
  rw [this]
  exact q _ H (Same.refl H) (.int _)
abbrev rMax2Q : List V → Hp → VK → Prop := fun xs H Q => ∃ i j, xs = [.int i, .int j] ∧ Q (.int (if j > i then j else i)) H
theorem ev_max2 (h : EaP b ps t [.int i, .int j]) : EvP b ps (tCB rMax2Q t) (.int (max i j)) := ev_cb h fun vs H G s rl Q q => by
  obtain ⟨v, w, rfl, r1, r2⟩ := rl.two_
  refine ⟨i, j, by rw [r1.int_, r2.int_], ?_⟩
  have e : (if j > i then j else i) = max i j := by split <;> omega
  rw [e]
  exact q _ H (Same.refl H) (.int _)
theorem nuMax3_int (i j k : Int) : nuMax3 (.int i) (.int j) (.int k) = some (.int (max (max i j) k)) := by
  have e : ∀ x y : Int, nuMax2 (.int x) (.int y) = some (.int (max x y)) := fun x y => by
    unfold nuMax2 nuLt
    show some (if decide (x < y) = true then V.int y else V.int x) = _
    by_cases h : x < y
    · rw [if_pos (by simpa using h)]
      congr 2
      omega
    · rw [if_neg (by simpa using h)]
      congr 2
      omega
  unfold nuMax3
  rw [e]
  show nuMax2 (.int (max i j)) (.int k) = _
  rw [e]
theorem ev_max3 (h : EaP b ps t [.int i, .int j, .int k]) : EvP b ps (tCB (rNuC3 nuMax3) t) (.int (max (max i j) k)) := ev_cb h fun vs H G s rl Q q => by
  obtain ⟨v, w, u, rfl, r1, r2, r3⟩ := rl.three_
  exact ⟨_, _, _, _, rfl, by rw [r1.int_, r2.int_, r3.int_, nuMax3_int], q _ H (Same.refl H) (.int _)⟩
abbrev rTupQ (K : PySem.W.Frag) : List V → Hp → VK → Prop := fun xs H Q => ∃ p ys, xs = [.ref p] ∧ ((SqL K H p ys ∧ ∀ l, H l = none → Q (.ref l) (upd H l (.tup ys))) ∨ (SqT K H p ys ∧ Q (.ref p) H))
theorem ev_tupL (h : EaP b ps t [.lst ds]) : EvP b ps (tCB (rTupQ K) t) (.tup ds) := ev_cb h fun vs H G s rl Q q => by
  obtain ⟨v, rfl, r⟩ := rl.one_
  obtain ⟨a, vs, rfl, e, l⟩ := r.lst_
  exact ⟨a, vs, rfl, .inl ⟨SqL.of (s _ _ e), fun p hp => q _ _ (same_upd hp) (r_newT s hp l)⟩⟩
theorem ev_tupT (h : EaP b ps t [.tup ds]) : EvP b ps (tCB (rTupQ K) t) (.tup ds) := ev_cb h fun vs H G s rl Q q => by
  obtain ⟨v, rfl, r⟩ := rl.one_
  obtain ⟨a, vs, rfl, e, l⟩ := id r.tup_
  exact ⟨a, vs, rfl, .inr ⟨SqT.of (s _ _ e), q _ H (Same.refl H) (r.up s (Same.refl H))⟩⟩
abbrev rLstQ (K : PySem.W.Frag) : List V → Hp → VK → Prop := fun xs H Q => ∃ p ys, xs = [.ref p] ∧ (SqL K H p ys ∨ SqT K H p ys) ∧ ∀ l, H l = none → Q (.ref l) (upd H l (.lst ys))
theorem ev_lstL (h : EaP b ps t [.lst ds]) : EvP b ps (tCB (rLstQ K) t) (.lst ds) := ev_cb h fun vs H G s rl Q q => by
  obtain ⟨v, rfl, r⟩ := rl.one_
  obtain ⟨a, vs, rfl, e, l⟩ := r.lst_
  exact ⟨a, vs, rfl, .inl (SqL.of (s _ _ e)), fun p hp => q _ _ (same_upd hp) (r_newL s hp l)⟩
theorem ev_lstT (h : EaP b ps t [.tup ds]) : EvP b ps (tCB (rLstQ K) t) (.lst ds) := ev_cb h fun vs H G s rl Q q => by
  obtain ⟨v, rfl, r⟩ := rl.one_
  obtain ⟨a, vs, rfl, e, l⟩ := r.tup_
  exact ⟨a, vs, rfl, .inr (SqT.of (s _ _ e)), fun p hp => q _ _ (same_upd hp) (r_newL s hp l)⟩
/-! isinstance -/
def D.tyN : D → Option String
  | .non => some "NoneType" | .bl _ => some "bool" | .int _ => some "int" | .str _ => some "str" | .tup _ => some "tuple" | .lst _ => some "list" | _ => none
theorem R.tyx {G H : Hp} {v : V} {n : String} (s : Sub G H) (r : R b G v d) (h : d.tyN = some n) : TyX K H v (.type n) := by
  cases r with
  | non => cases h; exact .base .non
  | bl c => cases h; exact .base (.bl c)
  | int c => cases h; exact .base (.int c)
  | str c => cases h; exact .base (.str c)
  | tup e _ => cases h; exact .base (.tup (s _ _ e))
  | lst e _ => cases h; exact .base (.lst (s _ _ e))
  | _ => cases h
theorem ev_isi {n m : String} {c : Bool} (h : EaP b ps t [d, .cls m]) (hd : d.tyN = some n) (hk : kitB n m = some c) : EvP b ps (tCB (rIsi K) t) (.bl c) := ev_cb h fun vs H G s rl Q q => by
  obtain ⟨v, w, rfl, r1, r2⟩ := rl.two_
  exact ⟨v, w, .type n, .type m, c, rfl, by rw [r2.cls_]; exact .ty m, r1.tyx s hd, kit_ty hk, q _ H (Same.refl H) (.bl _)⟩
theorem ev_isi2 {n m1 m2 : String} {c1 c2 : Bool} (h : EaP b ps t [d, .tup [.cls m1, .cls m2]]) (hd : d.tyN = some n) (hk1 : kitB n m1 = some c1) (hk2 : kitB n m2 = some c2) : EvP b ps (tCB (rIsiT K) t) (.bl (c1 || c2)) := ev_cb h fun vs H G s rl Q q => by
  obtain ⟨v, w, rfl, r1, r2⟩ := rl.two_
  obtain ⟨a, cs, rfl, e, l⟩ := r2.tup_
  obtain ⟨x, y, rfl, q1, q2⟩ := l.two_
  refine ⟨v, a, _, .type n, [.type m1, .type m2], c1 || c2, rfl, s _ _ e, .cons (by rw [q1.cls_]; exact .ty m1) (.cons (by rw [q2.cls_]; exact .ty m2) .nil), r1.tyx s hd, ?_, q _ H (Same.refl H) (.bl _)⟩
  refine kitAny_cons (b := c1) (kit_ty hk1) (fun z => ?_) (fun z => by rw [z]; rfl)
  rw [z]
  refine kitAny_cons (b := c2) (kit_ty hk2) (fun z => ?_) (fun z => by rw [z]; rfl)
  rw [z]; rfl
theorem ev_cls {n : String} : EvP b ps (tC (.ty n)) (.cls n) := fun σ H G sub s Q q => q _ H (Same.refl H) (.cls n)
/-! in, of ints -/
theorem flat_ints : ∀ ns : List Int, (ns.map V.int).all flatV = true
  | [] => rfl
  | _ :: r => by
    rw [List.map_cons, List.all_cons, flat_ints r]
    rfl
theorem inV_ints (i : Int) : ∀ ns : List Int, inV (.int i) (ns.map V.int) = decide (i ∈ ns)
  | [] => by simp [inV]
  | n :: r => by
    have ih := inV_ints i r
    unfold inV at ih ⊢
    rw [List.map_cons, List.any_cons, ih]
    have e : eqV (.int n) (.int i) = decide (n = i) := by
      show (n == i) = _
      rw [Bool.beq_eq_decide_eq]
    rw [e]
    by_cases h : n = i
    · subst h; simp
    · have h' : ¬ i = n := fun z => h z.symm
      simp [h, h']
theorem ev_inT {ns : List Int} (ha : EvP b ps ta (.int i)) (hb : EvP b ps tb (.tup (ns.map .int))) : EvP b ps (tOp (rIn K false) ta tb) (.bl (decide (i ∈ ns))) :=
  ev_two ha hb fun x y H G s r1 r2 Q q => by
    obtain ⟨a, vs, rfl, e, l⟩ := r2.tup_
    rw [l.ints] at e
    refine ⟨a, _, rfl, .inr (SqT.of (s _ _ e)), by rw [r1.int_]; rfl, flat_ints ns, ?_⟩
    rw [r1.int_, inV_ints]
    exact q _ H (Same.refl H) (.bl _)
theorem ev_inL {ns : List Int} (ha : EvP b ps ta (.int i)) (hb : EvP b ps tb (.lst (ns.map .int))) : EvP b ps (tOp (rIn K false) ta tb) (.bl (decide (i ∈ ns))) :=
  ev_two ha hb fun x y H G s r1 r2 Q q => by
    obtain ⟨a, vs, rfl, e, l⟩ := r2.lst_
    rw [l.ints] at e
    refine ⟨a, _, rfl, .inl (SqL.of (s _ _ e)), by rw [r1.int_]; rfl, flat_ints ns, ?_⟩
    rw [r1.int_, inV_ints]
    exact q _ H (Same.refl H) (.bl _)
theorem ev_notinL {ns : List Int} (ha : EvP b ps ta (.int i)) (hb : EvP b ps tb (.lst (ns.map .int))) : EvP b ps (tOp (rIn K true) ta tb) (.bl (!decide (i ∈ ns))) :=
  ev_two ha hb fun x y H G s r1 r2 Q q => by
    obtain ⟨a, vs, rfl, e, l⟩ := r2.lst_
    rw [l.ints] at e
    refine ⟨a, _, rfl, .inl (SqL.of (s _ _ e)), by rw [r1.int_]; rfl, flat_ints ns, ?_⟩
    rw [r1.int_, inV_ints]
    exact q _ H (Same.refl H) (.bl _)
/-! == and in of nested data -/
mutual
def D.py : D → PyData
  | .non => .none | .bl c => .bool c | .int i => .int i | .str x => .str x | .tup ds => .tuple (D.pys ds) | .lst ds => .list (D.pys ds) | .dct _ => .none | .adr _ => .none | .lkd _ => .none | .cls _ => .none
def D.pys : List D → List PyData
  | [] => []
  | d :: ds => d.py :: D.pys ds
end
mutual
/-- data without dicts -/
def D.seq : D → Bool
  | .tup ds => D.seqs ds | .lst ds => D.seqs ds | .non => true | .bl _ => true | .int _ => true | .str _ => true | .dct _ => false | .adr _ => false | .lkd _ => false | .cls _ => false
def D.seqs : List D → Bool
  | [] => true
  | d :: ds => d.seq && D.seqs ds
end
mutual
theorem R.dp {G H : Hp} (s : Sub G H) : ∀ {v : V} {d : D}, R b G v d → d.seq = true → Dp K H v d.py
  | _, _, .non, _ => by rw [D.py]; exact .non
  | _, _, .bl c, _ => by rw [D.py]; exact .bl c
  | _, _, .int c, _ => by rw [D.py]; exact .int c
  | _, _, .str c, _ => by rw [D.py]; exact .str c
  | _, _, .tup e l, h => by rw [D.py]; exact .tup (SqT.of (s _ _ e)) (RL.dp s l (by rw [D.seq] at h; exact h))
  | _, _, .lst e l, h => by rw [D.py]; exact .lst (SqL.of (s _ _ e)) (RL.dp s l (by rw [D.seq] at h; exact h))
  | _, _, .dct _ _, h => by rw [D.seq] at h; cases h
  | _, _, .adr _, h => by rw [D.seq] at h; cases h
  | _, _, .cls _, h => by rw [D.seq] at h; cases h
  | _, _, .lkd _ _, h => by rw [D.seq] at h; cases h
theorem RL.dp {G H : Hp} (s : Sub G H) : ∀ {vs : List V} {ds : List D}, RL b G vs ds → D.seqs ds = true → DpAll K H vs (D.pys ds)
  | _, _, .nil, _ => by rw [D.pys]; exact .nil
  | _, _, .cons r l, h => by
    rw [D.seqs, Bool.and_eq_true] at h
    rw [D.pys]
    exact .cons (R.dp s r h.1) (RL.dp s l h.2)
end
theorem ev_eqD (ha : EvP b ps ta d) (hb : EvP b ps tb e) (h1 : d.seq = true) (h2 : e.seq = true) (s1 : SeqAt.shaped d.py = true) (s2 : SeqAt.shaped e.py = true) : EvP b ps (tOp (rEqD K) ta tb) (.bl (PyData.eqv d.py e.py)) :=
  ev_two ha hb fun x y H G s r1 r2 Q q => ⟨d.py, e.py, r1.dp s h1, r2.dp s h2, s1, s2, q _ H (Same.refl H) (.bl _)⟩
theorem ev_neD (ha : EvP b ps ta d) (hb : EvP b ps tb e) (h1 : d.seq = true) (h2 : e.seq = true) (s1 : SeqAt.shaped d.py = true) (s2 : SeqAt.shaped e.py = true) : EvP b ps (tOp (rNeD K) ta tb) (.bl (!PyData.eqv d.py e.py)) :=
  ev_two ha hb fun x y H G s r1 r2 Q q => ⟨d.py, e.py, r1.dp s h1, r2.dp s h2, s1, s2, q _ H (Same.refl H) (.bl _)⟩
theorem pys_map : ∀ ds : List D, D.pys ds = ds.map D.py
  | [] => by rw [D.pys]; rfl
  | d :: ds => by rw [D.pys, pys_map ds]; rfl
theorem ev_inD (ha : EvP b ps ta d) (hb : EvP b ps tb (.lst ds)) (h1 : d.seq = true) (h2 : D.seqs ds = true) (s1 : SeqAt.shaped d.py = true) (s2 : SeqAt.shaped (D.lst ds).py = true) : EvP b ps (tOp (rInD K) ta tb) (.bl (ds.any fun z => PyData.eqv z.py d.py)) :=
  ev_two ha hb fun x y H G s r1 r2 Q q => by
    refine ⟨d.py, D.pys ds, r1.dp s h1, ?_, s1, ?_, ?_⟩
    · have z := r2.dp (K := K) s (by rw [D.seq]; exact h2)
      rw [D.py] at z
      exact z
    · rw [D.py] at s2; exact s2
    · have e : ((D.pys ds).any fun z => PyData.eqv z d.py) = ds.any fun z => PyData.eqv z.py d.py := by
        rw [pys_map, List.any_map]
        rfl
      rw [e]
      exact q _ H (Same.refl H) (.bl _)
end
end SP
set_option Elab.async false
set_option linter.all false
set_option maxRecDepth 100000
/-! Stillpanes, part 9: dicts, calls, locks over data. -/
namespace SP
open PySem L2

/-! ### dicts -/
def valD (ks : List (List Int × D)) (k : List Int) : Option D := (ks.find? fun p => decide (p.1 = k)).map (·.2)
def putD (ks : List (List Int × D)) (k : List Int) (d : D) : List (List Int × D) := if (ks.any fun p => decide (p.1 = k)) = true then ks.map (fun p => if p.1 = k then (p.1, d) else p) else ks ++ [(k, d)]
def mergeD (ks more : List (List Int × D)) : List (List Int × D) := more.foldl (fun acc p => putD acc p.1 p.2) ks
theorem inl_inj {k l : List Int} : k.map (Sum.inl (β := Str)) = l.map Sum.inl ↔ k = l := by
  constructor
  · intro h
    induction k generalizing l with
    | nil => cases l with
      | nil => rfl
      | cons _ _ => simp at h
    | cons x r ih => cases l with
      | nil => simp at h
      | cons y t =>
        simp at h
        rw [h.1, ih (by simpa using h.2)]
  · intro h; rw [h]
section
variable {b : Bool} {H : Hp}
theorem RK.val : ∀ {kvs : List (List Key × V)} {ks : List (List Int × D)}, RK b H kvs ks → ∀ k, (∀ d, valD ks k = some d → ∃ v, valV kvs (k.map Sum.inl) = some v ∧ R b H v d) ∧ (valD ks k = none → valV kvs (k.map Sum.inl) = none)
  | _, _, .nil, k => ⟨fun d e => by simp [valD] at e, fun _ => rfl⟩
  | _, _, .cons (k := k0) (v := v) (kvs := kvs) (d := d0) (ks := ks) r l, k => by
    have ih := RK.val l k
    by_cases e : k0 = k
    · have e1 : valD ((k0, d0) :: ks) k = some d0 := by simp [valD, List.find?_cons, e]
      have e2 : valV ((k0.map Sum.inl, v) :: kvs) (k.map Sum.inl) = some v := valV_pos (inl_inj.mpr e)
      refine ⟨fun d h => ?_, fun h => ?_⟩
      · rw [e1] at h; cases h; exact ⟨v, e2, r⟩
      · rw [e1] at h; cases h
    · have e1 : valD ((k0, d0) :: ks) k = valD ks k := by simp [valD, List.find?_cons, e]
      have e2 : valV ((k0.map Sum.inl, v) :: kvs) (k.map Sum.inl) = valV kvs (k.map Sum.inl) := valV_neg (fun z => e (inl_inj.mp z))
      rw [e1, e2]
      exact ih
theorem RK.any : ∀ {kvs : List (List Key × V)} {ks : List (List Int × D)}, RK b H kvs ks → ∀ k, (kvs.any fun kv => decide (kv.1 = k.map Sum.inl)) = ks.any fun p => decide (p.1 = k)
  | _, _, .nil, k => rfl
  | _, _, .cons (k := k0) r l, k => by
    rw [List.any_cons, List.any_cons, RK.any l k]
    have e : decide (k0.map (Sum.inl (β := Str)) = k.map Sum.inl) = decide (k0 = k) := by
      by_cases h : k0 = k
      · rw [decide_eq_true h, decide_eq_true (inl_inj.mpr h)]
      · rw [decide_eq_false h, decide_eq_false (fun z => h (inl_inj.mp z))]
    rw [e]
theorem RK.append : ∀ {kvs lvs : List (List Key × V)} {ks ls : List (List Int × D)}, RK b H kvs ks → RK b H lvs ls → RK b H (kvs ++ lvs) (ks ++ ls)
  | _, _, _, _, .nil, r => r
  | _, _, _, _, .cons h l, r => .cons h (l.append r)
theorem RK.over : ∀ {kvs : List (List Key × V)} {ks : List (List Int × D)} {k : List Int} {v : V} {d : D}, RK b H kvs ks → R b H v d → RK b H (kvs.map fun kv => if kv.1 = k.map Sum.inl then (kv.1, v) else kv) (ks.map fun p => if p.1 = k then (p.1, d) else p)
  | _, _, _, _, _, .nil, _ => .nil
  | _, _, k, v, d, .cons (k := k0) r l, rv => by
    rw [List.map_cons, List.map_cons]
    have ih := RK.over (k := k) l rv
    by_cases h : k0 = k
    · subst h
      rw [if_pos rfl, if_pos rfl]
      exact .cons rv ih
    · rw [if_neg h, if_neg (fun z => h (inl_inj.mp z))]
      exact .cons r ih
theorem RK.put {kvs : List (List Key × V)} {ks : List (List Int × D)} {k : List Int} {v : V} {d : D} (r : RK b H kvs ks) (rv : R b H v d) : RK b H (putK kvs (k.map Sum.inl) v) (putD ks k d) := by
  unfold putK putD
  rw [r.any k]
  split
  · exact r.over rv
  · exact r.append (.cons rv .nil)
theorem RK.merge : ∀ {ms : List (List Int × D)} {more : List (List Key × V)} {kvs : List (List Key × V)} {ks : List (List Int × D)}, RK b H more ms → RK b H kvs ks → RK b H (mergeT kvs more) (mergeD ks ms)
  | [], _, _, _, .nil, r => r
  | _ :: ms, _, _, _, .cons (k := k) h l, r => by
    have z := RK.merge (ms := ms) l (r.put (k := k) h)
    exact z
end
def D.ks : D → Option (List (List Int × D))
  | .dct ks => some ks
  | .lkd ks => some ks
  | _ => none
theorem R.rdk {b : Bool} {H : Hp} {x : V} {d : D} {ks : List (List Int × D)} (r : R b H x d) (h : d.ks = some ks) : ∃ a kvs, x = .ref a ∧ Rd H a (.dT kvs) ∧ RK b H kvs ks := by
  cases r with
  | dct e l => cases h; exact ⟨_, _, rfl, e.rd, l⟩
  | lkd e l => cases h; exact ⟨_, _, rfl, .inr ⟨_, e⟩, l⟩
  | _ => cases h
theorem rd_sub {G H : Hp} {a : Addr} {u : HO} (s : Sub G H) (h : Rd G a u) : Rd H a u := by
  rcases h with h | ⟨o, h⟩
  · exact .inl (s _ _ h)
  · exact .inr ⟨o, s _ _ h⟩
section
variable {b : Bool} {ps : Ds} {te ta tb td ty : TE} {t : TA} {d e : D} {ds es : List D} {K : PySem.W.Frag} {k : List Int} {ks : List (List Int × D)}
theorem r_get {G H : Hp} {x y : V} (s : Sub G H) (r : R b G x d) (h : d.ks = some ks) (rk : R b G y (keyD k)) : ∃ a o, x = .ref a ∧ IsD H a ∧ DGet H a y o ∧ (∀ z, valD ks k = some z → ∃ v, o = some v ∧ R b G v z) ∧ (valD ks k = none → o = none) := by
  obtain ⟨a, kvs, rfl, ea, rl⟩ := r.rdk h
  obtain ⟨c, vs, rfl, ec, rv⟩ := R.tup_ rk
  rw [rv.ints, ← kV_ints] at ec
  obtain ⟨h1, h2⟩ := rl.val k
  refine ⟨a, valV kvs (k.map Sum.inl), rfl, .inr ⟨kvs, rd_sub s ea⟩, .inr ⟨kvs, k.map Sum.inl, c, rd_sub s ea, rfl, s _ _ ec, rfl⟩, fun z hz => ?_, fun hz => h2 hz⟩
  obtain ⟨v, e1, r1⟩ := h1 z hz
  exact ⟨v, e1, r1⟩
theorem ev_dget (ha : EvP b ps td d) (hd : d.ks = some ks) (hb : EvP b ps ty (keyD k)) (hv : valD ks k = some e) : EvP b ps (tDGet td ty) e :=
  ev_two (r := fun x y H Q => ∃ a v, x = .ref a ∧ DGet H a y (some v) ∧ Q v H) ha hb fun x y H G s r1 r2 Q q => by
    obtain ⟨a, o, rfl, _, g, h1, _⟩ := r_get s r1 hd r2
    obtain ⟨v, rfl, r⟩ := h1 e hv
    exact ⟨a, v, rfl, g, q v H (Same.refl H) (r.up s (Same.refl H))⟩
theorem ev_din (hb : EvP b ps ty (keyD k)) (ha : EvP b ps td d) (hd : d.ks = some ks) : EvP b ps (tDIn ty td) (.bl (valD ks k).isSome) :=
  ev_two (r := fun y x H Q => ∃ a o, x = .ref a ∧ DGet H a y o ∧ Q (.bl o.isSome) H) hb ha fun y x H G s r2 r1 Q q => by
    obtain ⟨a, o, rfl, _, g, h1, h2⟩ := r_get s r1 hd r2
    refine ⟨a, o, rfl, g, ?_⟩
    have e : o.isSome = (valD ks k).isSome := by
      cases hz : valD ks k with
      | none => rw [h2 hz] <;> rfl
      | some z => obtain ⟨v, rfl, _⟩ := h1 z hz; rfl
    rw [e]
    exact q _ H (Same.refl H) (.bl _)
theorem ev_dnotin (hb : EvP b ps ty (keyD k)) (ha : EvP b ps td d) (hd : d.ks = some ks) : EvP b ps (tDNotIn ty td) (.bl (!(valD ks k).isSome)) :=
  ev_two (r := fun y x H Q => ∃ a o, x = .ref a ∧ DGet H a y o ∧ Q (.bl (!o.isSome)) H) hb ha fun y x H G s r2 r1 Q q => by
    obtain ⟨a, o, rfl, _, g, h1, h2⟩ := r_get s r1 hd r2
    refine ⟨a, o, rfl, g, ?_⟩
    have e : o.isSome = (valD ks k).isSome := by
      cases hz : valD ks k with
      | none => rw [h2 hz] <;> rfl
      | some z => obtain ⟨v, rfl, _⟩ := h1 z hz; rfl
    rw [e]
    exact q _ H (Same.refl H) (.bl _)
theorem ev_dget1 (ha : EvP b ps td d) (hd : d.ks = some ks) (hb : EvP b ps ty (keyD k)) : EvP b ps (tDGet1 td ty) ((valD ks k).getD .non) := fun σ H G s l Q q => ha σ H G s l _ fun x H1 e1 r1 => by
  obtain ⟨a, kvs, rfl, ea, rl⟩ := r1.rdk hd
  refine ⟨a, rfl, .inr ⟨kvs, rd_sub (ext_sub s e1) ea⟩, hb σ H1 (ext G H H1) (ext_sub s e1) (l.same (ext_ge s e1)) _ fun y H2 e2 r2 => ?_⟩
  obtain ⟨a', o, ea', _, g, h1, h2⟩ := r_get (ext_sub (ext_sub s e1) e2) (r1.up (ext_sub s e1) e2) hd r2
  cases ea'
  refine ⟨o, g, ?_⟩
  cases hz : valD ks k with
  | none =>
    rw [h2 hz]
    rw [hz] at q
    exact q _ H2 (e1.trans e2) .non
  | some z =>
    obtain ⟨v, rfl, r⟩ := h1 z hz
    rw [hz] at q
    exact q v H2 (e1.trans e2) (r.same (ext_ext s e1 e2))
/-! dict([(key, value), ..]) -/
def pairD (p : List Int × D) : D := .tup [keyD p.1, p.2]
theorem pairs_of {G H : Hp} (s : Sub G H) : ∀ {its : List V} {ks : List (List Int × D)}, RL b G its (ks.map pairD) → ∃ kvs, PairsT H its kvs ∧ RK b G kvs ks
  | _, [], .nil => ⟨[], .nil, .nil⟩
  | _, k :: ks, .cons r l => by
    obtain ⟨kvs, h1, h2⟩ := pairs_of s (ks := ks) l
    obtain ⟨a, vs, rfl, ea, rv⟩ := R.tup_ r
    obtain ⟨x, y, rfl, rx, ry⟩ := rv.two_
    obtain ⟨c, ws, rfl, ec, rw'⟩ := R.tup_ rx
    rw [rw'.ints, ← kV_ints] at ec
    exact ⟨(k.1.map Sum.inl, y) :: kvs, .cons ⟨a, c, rfl, s _ _ ea, s _ _ ec⟩ h1, .cons ry h2⟩
theorem ev_dict (h : EaP b ps t [.lst (ks.map pairD)]) : EvP b ps (tCB rDictT t) (.dct (mergeD [] ks)) := ev_cb h fun vs H G s rl Q q => by
  obtain ⟨v, rfl, r⟩ := rl.one_
  obtain ⟨a, vs, rfl, ea, l⟩ := R.lst_ r
  obtain ⟨kvs, h1, h2⟩ := pairs_of s l
  refine ⟨a, vs, kvs, rfl, s _ _ ea, h1, fun p hp => q _ _ (same_upd hp) (.dct (.inl (ext_new hp upd_same)) ?_)⟩
  exact (h2.merge .nil).same (ext_ge s (same_upd hp))
/-! == {} -/
theorem ev_dnew : EvP b ps tDNewT (.dct []) := fun σ H G s l Q q p hp => q _ _ (same_upd hp) (.dct (.inl (ext_new hp upd_same)) .nil)
theorem ev_eqZ (ha : EvP b ps ta d) (hd : d.ks = some ks) (hb : EvP b ps tb (.dct [])) : EvP b ps (tOp rEqZ ta tb) (.bl (decide (ks = []))) :=
  ev_two ha hb fun x y H G s r1 r2 Q q => by
    obtain ⟨a, kvs, rfl, ea, rl⟩ := r1.rdk hd
    obtain ⟨c, kvs2, rfl, ec, rl2⟩ := r2.rdk (ks := []) rfl
    cases rl2
    refine ⟨a, c, kvs, rfl, rfl, rd_sub s ea, rd_sub s ec, ?_⟩
    have e : decide (kvs.length = 0) = decide (ks = []) := by
      rw [rl.len]
      cases ks <;> simp
    rw [e]
    exact q _ H (Same.refl H) (.bl _)
theorem ev_neZ (ha : EvP b ps ta d) (hd : d.ks = some ks) (hb : EvP b ps tb (.dct [])) : EvP b ps (tOp rNeZ ta tb) (.bl (!decide (ks = []))) :=
  ev_two ha hb fun x y H G s r1 r2 Q q => by
    obtain ⟨a, kvs, rfl, ea, rl⟩ := r1.rdk hd
    obtain ⟨c, kvs2, rfl, ec, rl2⟩ := r2.rdk (ks := []) rfl
    cases rl2
    refine ⟨a, c, kvs, rfl, rfl, rd_sub s ea, rd_sub s ec, ?_⟩
    have e : decide (kvs.length = 0) = decide (ks = []) := by
      rw [rl.len]
      cases ks <;> simp
    rw [e]
    exact q _ H (Same.refl H) (.bl _)
/-! min, sorted of data -/
theorem ev_minD (h : EaP b ps t [.lst ds]) (hs : D.seqs ds = true) (ha : PySem.W.AlikeAll (D.pys ds)) (h0 : ds ≠ []) (hdp : PyData.depthAll (D.pys ds) ≤ 20) (he : ds[bestD (D.pys ds)]? = some d) : EvP b ps (tCB (rMinD K) t) d := ev_cb h fun vs H G s rl Q q => by
  obtain ⟨v, rfl, r⟩ := rl.one_
  obtain ⟨a, vs, rfl, ea, l⟩ := R.lst_ r
  have hl : 0 < (D.pys ds).length := by
    rw [pys_map, List.length_map]
    exact List.length_pos_iff.mpr h0
  refine ⟨a, vs, D.pys ds, rfl, SqL.of (s _ _ ea), l.dp s hs, ha, hl, hdp, fun v hv => ?_⟩
  obtain ⟨w, e1, r1⟩ := l.get he
  rw [hv] at e1
  cases e1
  exact q v H (Same.refl H) (r1.up s (Same.refl H))
theorem RL.mem {G : Hp} {vs : List V} {ds : List D} (l : RL b G vs ds) : ∀ p ∈ vs.zip ds, R b G p.1 p.2 := by
  induction vs generalizing ds with
  | nil => intro p hp; simp at hp
  | cons v vs ih =>
    cases l with
    | cons r l =>
      intro p hp
      rw [List.zip_cons_cons] at hp
      rcases List.mem_cons.mp hp with rfl | hp
      · exact r
      · exact ih l p hp
theorem RL.ofs {G : Hp} : ∀ {ps : List (V × D)}, (∀ p ∈ ps, R b G p.1 p.2) → RL b G (ps.map (·.1)) (ps.map (·.2))
  | [], _ => .nil
  | p :: ps, h => .cons (h p (List.mem_cons_self ..)) (RL.ofs fun q hq => h q (List.mem_cons_of_mem _ hq))
theorem ev_sort (h : EaP b ps t [.lst ds]) (hs : D.seqs ds = true) (hal : PySem.W.AllAlike (D.pys ds)) (hso : PySem.W.Sortable (D.pys ds)) (hdp : ∀ d ∈ D.pys ds, d.depth ≤ 20) : EvP b ps (tCB (rSortD K) t) (.lst (ds.mergeSort (PySem.W.dataLe false D.py))) := ev_cb h fun vs H G s rl Q q => by
  obtain ⟨v, rfl, r⟩ := rl.one_
  obtain ⟨a, vs, rfl, ea, l⟩ := R.lst_ r
  have hl : vs.length = (D.pys ds).length := by rw [pys_map, List.length_map]; exact l.len
  refine ⟨a, vs, D.pys ds, rfl, SqL.of (s _ _ ea), l.dp s hs, hl, hal, hso, hdp, fun p hp => q _ _ (same_upd hp) (r_newL s hp ?_)⟩
  have e1 : (vs.zip (D.pys ds)) = (vs.zip ds).map fun p => (p.1, p.2.py) := by
    rw [pys_map, List.zip_map_right]
    rfl
  have e2 : ((vs.zip (D.pys ds)).mergeSort (PySem.W.dataLe false (·.2))).map (·.1) = ((vs.zip ds).mergeSort (fun p q => PySem.W.dataLe false D.py p.2 q.2)).map (·.1) := by
    have z := List.map_mergeSort (r := fun p q : V × D => PySem.W.dataLe false D.py p.2 q.2) (s := PySem.W.dataLe false (fun p : V × PyData => p.2)) (f := fun p : V × D => (p.1, p.2.py)) (l := vs.zip ds) (fun _ _ _ _ => rfl)
    rw [e1, ← z, List.map_map]
    rfl
  have e3 : ds.mergeSort (PySem.W.dataLe false D.py) = ((vs.zip ds).mergeSort (fun p q => PySem.W.dataLe false D.py p.2 q.2)).map (·.2) := by
    have z := List.map_mergeSort (r := fun p q : V × D => PySem.W.dataLe false D.py p.2 q.2) (s := PySem.W.dataLe false D.py) (f := fun p : V × D => p.2) (l := vs.zip ds) (fun _ _ _ _ => rfl)
    rw [z, List.map_snd_zip (by rw [l.len]; exact Nat.le_refl _)]
  rw [e2, e3]
  refine RL.ofs fun p hp => ?_
  exact l.mem p (List.mem_mergeSort.mp hp)
end

/-! ### promises -/
/-- hands back what F says of the arguments -/
def SpR (F : List D → D → Prop) : Sp := fun vs H Q _ => ∃ ds d, RL false H vs ds ∧ F ds d ∧ ∀ v H', Same H H' → R true (new H H') v d → Q v H'
/-- .. or raises C -/
def SpE (C : Addr) (F : List D → Option D → Prop) : Sp := fun vs H Q E => ∃ ds o, RL false H vs ds ∧ F ds o ∧ (∀ d, o = some d → ∀ v H', Same H H' → R true (new H H') v d → Q v H') ∧ (o = none → ∀ H', Same H H' → E (.ref C) none H')
theorem R.wk {b : Bool} {H : Hp} {v : V} {d : D} (r : R true H v d) : R b H v d := by
  cases b with
  | true => exact r
  | false => exact r.mono (Le.to H)
theorem RL.wk {b : Bool} {H : Hp} {vs : List V} {ds : List D} (r : RL b H vs ds) : RL false H vs ds := r.mono (Le.to H)
theorem ev_call {b : Bool} {ps : Ds} {t : TA} {ds : List D} {d : D} {F : List D → D → Prop} {E : L2.St → XK} (h : EaP b ps t ds) (hF : F ds d) : EvP b ps (tCallS (SpR F) E t) d := fun σ H G s l Q q =>
  h σ H G s l _ fun vs H1 e1 r1 => ⟨ds, d, (r1.same (ext_sub s e1)).wk, hF, fun v H2 e2 r2 => q v H2 (e1.trans e2) (r2.wk.same fun a o h => by
    rcases ext_cases h with ⟨⟨vs, rfl⟩, h⟩ | ⟨h1, h⟩ | ⟨_, h⟩
    · exact ext_tup h
    · exact ext_new (Same.free e1 h1) h
    · cases h)⟩
theorem ev_callE {C : Addr} {b : Bool} {ps : Ds} {t : TA} {ds : List D} {d : D} {F : List D → Option D → Prop} {E : L2.St → XK} (h : EaP b ps t ds) (hF : F ds (some d)) : EvP b ps (tCallS (SpE C F) E t) d := fun σ H G s l Q q =>
  h σ H G s l _ fun vs H1 e1 r1 => ⟨ds, some d, (r1.same (ext_sub s e1)).wk, hF, fun d' e v H2 e2 r2 => by
    cases e
    exact q v H2 (e1.trans e2) (r2.wk.same fun a o h => by
      rcases ext_cases h with ⟨⟨vs, rfl⟩, h⟩ | ⟨h1, h⟩ | ⟨_, h⟩
      · exact ext_tup h
      · exact ext_new (Same.free e1 h1) h
      · cases h), fun z => nomatch z⟩

/-! ### a comprehension while a dict is locked -/
theorem lockR {G : Hp} {a : Addr} {od : Obj} {kvs : List (List Key × V)} (ea : G a = some (.dT kvs)) : Le true false G (upd G a (.frz od (.dT kvs))) where
  tup := fun c vs h => by rw [upd_ne (fun e => by rw [e, ea] at h; cases h)]; exact h
  lst := fun c vs h => by rw [upd_ne (fun e => by rw [e, ea] at h; cases h)]; exact h
  dct := fun c ks h => by
    rcases h with h | ⟨z, _⟩
    · by_cases e : c = a
      · subst e
        rw [ea] at h; cases h
        exact .inr ⟨rfl, od, upd_same⟩
      · exact .inl (by rw [upd_ne e]; exact h)
    · cases z
  frz := fun c o ks h => by rw [upd_ne (fun e => by rw [e, ea] at h; cases h)]; exact h
theorem lock_core {te : TE} {σ : L2.St} {H G : Hp} {Q : VK} {ys : List D} {a : Addr} {kvs : List (List Key × V)} (s : Sub G H) (ea : G a = some (.dT kvs)) (hI : ∀ y ∈ ys, Imm y)
    (h : ∀ od, ∀ Q' : VK, (∀ v H2, Same (upd H a (.frz od (.dT kvs))) H2 → R false (ext (upd G a (.frz od (.dT kvs))) (upd H a (.frz od (.dT kvs))) H2) v (.lst ys) → Q' v H2) → te σ (upd H a (.frz od (.dT kvs))) Q')
    (q : ∀ v H2, Same H H2 → R true (ext G H H2) v (.lst ys) → Q v H2) : tLockE te σ H Q := by
  refine ⟨a, .dT kvs, s _ _ ea, trivial, fun od => h od _ fun v H2 e2 r2 => ?_⟩
  have h2a : H2 a = some (.frz od (.dT kvs)) := e2 _ _ upd_same
  have sm : Same H (upd H2 a (.dT kvs)) := fun c o e => by
    by_cases ec : c = a
    · subst ec
      rw [s _ _ ea] at e; cases e
      exact upd_same
    · rw [upd_ne ec]
      exact e2 c o (by rw [upd_ne ec]; exact e)
  refine ⟨h2a, q v _ sm ?_⟩
  obtain ⟨l, vs, rfl, el, rl⟩ := r2.lst_
  have hla : l ≠ a := fun e => by
    rw [e] at el
    rcases ext_cases el with ⟨⟨_, z⟩, _⟩ | ⟨_, z⟩ | ⟨_, z⟩
    · cases z
    · rw [h2a] at z; cases z
    · rw [upd_same] at z; cases z
  have low : ∀ {c : Addr} {o : HO}, c ≠ a → ext (upd G a (.frz od (.dT kvs))) (upd H a (.frz od (.dT kvs))) H2 c = some o → ext G H (upd H2 a (.dT kvs)) c = some o := fun {c o} hc h => by
    unfold ext at h ⊢
    rw [upd_ne hc] at h ⊢
    rw [upd_ne hc] at h
    exact h
  refine .lst (low hla el) (rl.imm (fun c ws h => ?_) hI)
  refine low (fun e => ?_) h
  rw [e] at h
  rcases ext_cases h with ⟨_, z⟩ | ⟨_, z⟩ | ⟨_, z⟩
  · rw [h2a] at z; cases z
  · rw [h2a] at z; cases z
  · rw [upd_same] at z; cases z
theorem set_self {α : Type} {l : List α} {j : Nat} {x : α} (h : l[j]? = some x) : l.set j x = l := by
  apply List.ext_getElem?
  intro i
  by_cases e : j = i
  · subst e
    rw [List.getElem?_set_self (List.getElem?_eq_some_iff.mp h).1, h]
  · rw [List.getElem?_set_ne e]
theorem ev_lockD {ps : Ds} {te : TE} {j : Nat} {ks : List (List Int × D)} {ys : List D} (hj : ps[j]? = some (some (.dct ks))) (hI : ∀ y ∈ ys, Imm y) (h : EvP false (ps.set j (some (.lkd ks))) te (.lst ys)) : EvP true ps (tLockE te) (.lst ys) := fun σ H G s l Q q => by
  obtain ⟨v, ev, r⟩ := l.2 j _ hj
  obtain ⟨a, kvs, rfl, ea, rk⟩ := r.dct_
  rcases ea with ea | ⟨z, _⟩
  · refine lock_core s ea hI (fun od Q' q' => ?_) q
    have sl : SL false (upd G a (.frz od (.dT kvs))) σ (ps.set j (some (.lkd ks))) := by
      have z := (l.mono (lockR (od := od) ea)).set j (R.lkd (b := false) (a := a) (ks := ks) upd_same (rk.mono (lockR ea)))
      rw [set_self ev] at z
      exact z
    refine h σ _ _ (fun c o hc => ?_) sl Q' q'
    by_cases e : c = a
    · subst e; rw [upd_same] at hc ⊢; exact hc
    · rw [upd_ne e] at hc ⊢; exact s _ _ hc
  · cases z
end SP
set_option Elab.async false
set_option linter.all false
set_option maxRecDepth 100000
/-! Stillpanes, part 10: statements over data; defs. -/
namespace SP
open PySem L2 PySem.Spec PyProof.Rows

/-- how a statement ends: with these slots, with this value, with the one exception -/
inductive Oc where
  | nx (ps : Ds) | rt (d : D) | ex
def EndP (W : L2.St → Hp → Prop) (b : Bool) (G H : Hp) (Dn : Ends) : Oc → Prop
  | .nx qs => ∀ σ' H2, Same H H2 → SL b (ext G H H2) σ' qs → Dn.nx σ' H2
  | .rt d => ∀ v H2, Same H H2 → R b (ext G H H2) v d → Dn.rt v H2
  | .ex => ∀ σ' H2, Same H H2 → W σ' H2
def SdP (W : L2.St → Hp → Prop) (b : Bool) (ps : Ds) (ts : TS) (o : Oc) : Prop := ∀ (σ : L2.St) (H G : Hp), Sub G H → SL b G σ ps → ∀ Dn : Ends, EndP W b G H Dn o → ts Dn σ H
section
variable {W : L2.St → Hp → Prop} {b : Bool} {ps qs rs : Ds} {ts tu : TS} {o : Oc} {te : TE} {tt : TT} {ta : TA} {g : TG} {d e : D} {vs : List Nat}
theorem SdP.is {o' : Oc} (h : SdP W b ps ts o) (q : o = o') : SdP W b ps ts o' := q ▸ h
/-- the end, told of an earlier heap -/
theorem sd_back {G H H1 : Hp} {Dn : Ends} (s : Sub G H) (e1 : Same H H1) (q : EndP W b G H Dn o) : EndP W b (ext G H H1) H1 Dn o := by
  cases o with
  | nx qs => exact fun σ' H2 e2 l => q σ' H2 (e1.trans e2) (l.same (ext_ext s e1 e2))
  | rt d => exact fun v H2 e2 r => q v H2 (e1.trans e2) (r.same (ext_ext s e1 e2))
  | ex => exact fun σ' H2 e2 => q σ' H2 (e1.trans e2)
theorem sd_seq (h1 : SdP W b ps ts (.nx qs)) (h2 : SdP W b qs tu o) : SdP W b ps (tSeq ts tu) o := fun σ H G s l Dn q =>
  h1 σ H G s l { Dn with nx := tu Dn } fun σ' H1 e1 l1 => h2 σ' H1 (ext G H H1) (ext_sub s e1) l1 Dn (sd_back s e1 q)
theorem sd_seqR (h1 : SdP W b ps ts (.rt d)) : SdP W b ps (tSeq ts tu) (.rt d) := fun σ H G s l Dn q => h1 σ H G s l { Dn with nx := tu Dn } q
theorem sd_seqX (h1 : SdP W b ps ts .ex) : SdP W b ps (tSeq ts tu) .ex := fun σ H G s l Dn q => h1 σ H G s l { Dn with nx := tu Dn } q
theorem sd_next : SdP W b ps tNext (.nx ps) := fun σ H G s l Dn q => q σ H (Same.refl H) (l.same (ext_ge s (Same.refl H)))
theorem sd_asg (h : EvP b ps te d) (hg : GdP b ps g d qs vs) : SdP W b ps (tAsg te g) (.nx qs) := fun σ H G s l Dn q => h σ H G s l _ fun v H1 e1 r1 => hg v σ H1 (ext G H H1) (ext_sub s e1) (l.same (ext_ge s e1)) r1 _ fun σ' l' _ => q σ' H1 e1 l'
theorem sd_set {i : Nat} (h : EvP b ps te d) : SdP W b ps (tAsg te (gName i)) (.nx (ps.set i (some d))) := sd_asg (vs := [i]) h gd_name
theorem sd_par {i j : Nat} (h : EaP b ps ta [d, e]) : SdP W b ps (tPar i j ta) (.nx ((ps.set i (some d)).set j (some e))) := fun σ H G s l Dn q => h σ H G s l _ fun vs H1 e1 r1 => by
  obtain ⟨v, w, rfl, rv, rw'⟩ := r1.two_
  exact ⟨v, w, rfl, q _ H1 e1 (((l.same (ext_ge s e1)).set i rv).set j rw')⟩
theorem sd_ret (h : EvP b ps te d) : SdP W b ps (tRet te) (.rt d) := fun σ H G s l Dn q => h σ H G s l _ q
theorem sd_if {c : Bool} (h : EtP b ps tt c) (h1 : c = true → SdP W b ps ts o) (h2 : c = false → SdP W b ps tu o) : SdP W b ps (tIfS tt ts tu) o := fun σ H G s l Dn q => h σ H G s l _ fun H1 e1 => by
  cases c with
  | true => exact h1 rfl σ H1 (ext G H H1) (ext_sub s e1) (l.same (ext_ge s e1)) Dn (sd_back s e1 q)
  | false => exact h2 rfl σ H1 (ext G H H1) (ext_sub s e1) (l.same (ext_ge s e1)) Dn (sd_back s e1 q)
/-- slots are forgotten -/
theorem SL.fgt {H : Hp} {σ : L2.St} (s : SL b H σ ps) : ∀ vs : List Nat, SL b H σ (wipeP ps vs)
  | [] => s
  | v :: vs => by
    have z := SL.fgt s vs
    refine ⟨by unfold wipeP; rw [List.length_set]; exact z.1, fun i d e => z.2 i d ?_⟩
    unfold wipeP at e
    by_cases q : v = i
    · subst q
      have hl : v < (wipeP ps vs).length := by
        have := (List.getElem?_eq_some_iff.mp e).1
        rw [List.length_set] at this
        exact this
      rw [List.getElem?_set_self hl] at e
      cases e
    · rw [List.getElem?_set_ne q] at e
      exact e
theorem sd_fgt (vs : List Nat) (h : SdP W b ps ts (.nx qs)) (e : wipeP qs vs = rs) : SdP W b ps ts (.nx rs) := fun σ H G s l Dn q => h σ H G s l Dn fun σ' H2 e2 l2 => q σ' H2 e2 (by rw [← e]; exact l2.fgt vs)
/-- for: n turns go through; then the items are at their end, or the next turn leaves -/
theorem sd_for {wi : TI} {items : List D} (pss : Nat → Ds) (n : Nat) (hi : IvP b ps wi items) (h0 : pss 0 = ps)
    (step : ∀ i d, i < n → items[i]? = some d → ∃ qs, GdP b (pss i) g d qs vs ∧ SdP W b qs ts (.nx (pss (i + 1))))
    (fin : (n = items.length ∧ o = .nx (pss n)) ∨ (n < items.length ∧ ∀ d, items[n]? = some d → ∃ qs, GdP b (pss n) g d qs vs ∧ SdP W b qs ts o ∧ ∀ rs, o ≠ .nx rs)) : SdP W b ps (tFor wi g ts) o := fun σ H G s l Dn q =>
  hi σ H G s l _ fun J H1 e1 walk => by
  have s1 := ext_sub s e1
  refine ⟨fun i m σ' Hc => m = items.length - i ∧ i ≤ n ∧ Same H1 Hc ∧ SL b (ext (ext G H H1) H1 Hc) σ' (pss i), ⟨items.length, rfl, Nat.zero_le _, Same.refl _, by rw [h0]; exact (l.same (ext_ge s e1)).same (ext_ge s1 (Same.refl _))⟩, ?_⟩
  rintro i m σ' Hc ⟨rfl, hle, ec, lc⟩
  have sc : Sub (ext G H H1) Hc := fun a o h => ec a o (s1 a o h)
  have hn : n ≤ items.length := by rcases fin with ⟨e, _⟩ | ⟨e, _⟩ <;> omega
  have turn : ∀ {d x H2}, items[i]? = some d → Same Hc H2 → R b (ext (ext G H H1) Hc H2) x d → Sub (ext (ext G H H1) H1 H2) H2 ∧ SL b (ext (ext G H H1) H1 H2) σ' (pss i) ∧ R b (ext (ext G H H1) H1 H2) x d := fun {d x H2} hd e2 rd => by
    refine ⟨ext_sub s1 (ec.trans e2), lc.same fun a o h => ?_, rd.same fun a o h => ?_⟩
    · rcases ext_cases h with ⟨⟨vs, rfl⟩, h⟩ | ⟨h1, h⟩ | ⟨_, h⟩
      · exact ext_tup (e2 _ _ h)
      · exact ext_new h1 (e2 _ _ h)
      · exact ext_ge s1 (ec.trans e2) _ _ h
    · rcases ext_cases h with ⟨⟨vs, rfl⟩, h⟩ | ⟨h1, h⟩ | ⟨_, h⟩
      · exact ext_tup h
      · exact ext_new (Same.free ec h1) h
      · exact ext_ge s1 (ec.trans e2) _ _ h
  by_cases hlt : i < n
  · obtain ⟨hgo, hy⟩ := (walk i Hc sc).1 (by omega)
    refine .inr ⟨hgo, fun σ2 H' => Same H1 H' ∧ SL b (ext (ext G H H1) H1 H') σ2 (pss (i + 1)), fun σ2 H' ⟨z1, z2⟩ => ⟨items.length - (i + 1), by omega, rfl, hlt, z1, z2⟩, fun x H2 hyl => ?_⟩
    obtain ⟨e2, d, hd, rd⟩ := hy x H2 hyl
    obtain ⟨s2, l2, r2⟩ := turn hd e2 rd
    obtain ⟨qs, hg, hb⟩ := step i d hlt hd
    refine hg x σ' H2 _ s2 l2 r2 _ fun σ2 l3 _ => hb σ2 H2 _ s2 l3 _ fun σ3 H3 e3 l4 => ⟨(ec.trans e2).trans e3, l4.same (ext_ext s1 (ec.trans e2) e3)⟩
  · have hin : i = n := by omega
    subst hin
    rcases fin with ⟨e, rfl⟩ | ⟨hl, last⟩
    · refine .inl ⟨(walk i Hc sc).2 (by omega), ?_⟩
      exact q σ' Hc (e1.trans ec) (lc.same fun a o h => ext_ext s e1 ec _ _ h)
    · obtain ⟨hgo, hy⟩ := (walk i Hc sc).1 hl
      refine .inr ⟨hgo, fun _ _ => False, fun _ _ z => z.elim, fun x H2 hyl => ?_⟩
      obtain ⟨e2, d, hd, rd⟩ := hy x H2 hyl
      obtain ⟨s2, l2, r2⟩ := turn hd e2 rd
      obtain ⟨qs, hg, hb, hno⟩ := last d hd
      refine hg x σ' H2 _ s2 l2 r2 _ fun σ2 l3 _ => hb σ2 H2 _ s2 l3 _ ?_
      cases o with
      | nx rs => exact absurd rfl (hno rs)
      | rt r => exact fun v H3 e3 r3 => q v H3 (((e1.trans ec).trans e2).trans e3) (r3.same fun a o h => ext_ext s e1 ((ec.trans e2).trans e3) _ _ (ext_ext s1 (ec.trans e2) e3 _ _ h))
      | ex => exact fun σ4 H3 e3 => q σ4 H3 (((e1.trans ec).trans e2).trans e3)
theorem sd_raise {tX : L2.St → Hp → XK → Prop} {C : Addr} {WW : WX} (h : ∀ σ H (Q : XK), Q (.ref C) none H → tX σ H Q) (hw : ∀ σ H, W σ H → WW (.ref C) none σ H) : SdP W b ps (fun _ σ H => tX σ H fun cls d H' => WW cls d σ H') .ex := fun σ H G s l Dn q => h σ H _ (hw σ H (q σ H (Same.refl H)))
end

/-! ### defs -/
/-- a def of the text, by its name: where it stands, what it promises -/
def Has (P : Program) (w : World) (K : PySem.W.Frag) (mg : Str → Option Value) (base : Heap) (x : Str) (ps : List Str) (k : Nat) (sp : Sp) : Prop :=
  ∃ f fd, FnOk P w K mg base (L2.CX P w) k f fd ps sp ∧ mg x = some (.ref f) ∧ PySem.W.keepIn K (.ref f) = true ∧ Binds K fd ps []
theorem pass0 {X : Cx} : ∀ σ : L2.St, PassesAt (L2.CX X.prog X.w) X σ E0 := fun σ pins H s e s' _ h => by
  obtain ⟨_, _, _, _, _, _, _, _, _, _, _, _, z⟩ := h
  exact z.elim
section
variable {X : Cx} {x : Str} {ps : List Str} {k : Nat} {sp : Sp} {E : L2.St → XK} {e : Expr} {es : List Expr} {t : TA} {p pos : Pos}
theorem pe_has (h : Has X.prog X.w X.K X.mg X.base x ps k sp) (hr : Room k X.A) (hg : Gl X x) (ha : PA X (e :: es) t) (hx : ∀ σ, PassesAt (L2.CX X.prog X.w) X σ (E σ)) (hdb : (x == ("__debug__" : Str)) = false := by decide)
    (he : starEach (e :: es) X.env = (false, eval e X.env) :: starEach es X.env := by rfl) (hpl : (backTo pos (starEach es X.env)).any (·.1) = false := by rfl) : PE X (.Call (.Name x p) (e :: es) [] pos) (tCallS sp E t) := by
  obtain ⟨f, fd, F, hm, hk, hb⟩ := h
  exact pe_callS F hr hg hm hk hb hx ha hdb he hpl
end
section
variable {P : Program} {w : World} {K : PySem.W.Frag} {mg : Str → Option Value} {base : Heap} {x qual : Str} {st : Stmt} {f : Addr} {fd : FuncData} {N ps : List Str} {k : Nat}
abbrev cxP (P : Program) (w : World) (K : PySem.W.Frag) (mg : Str → Option Value) (base : Heap) (N : List Str) (qual : Str) (st : Stmt) (f : Addr) (cdv : Value) (A : Around) (outer : List Env) (s : Shared) (H : Hp) (E : XK) : Cx := cxOf (L2.CX P w) P w K mg base N qual (defScope st) f cdv A outer s H E
def ps0 (N : List Str) (ds : List D) : Ds := ds.map some ++ List.replicate (N.length - ds.length) none
/-- a def that answers with what nothing changes -/
theorem ok_imm {F : List D → D → Prop} (Fn : Fun K x qual st f fd) (S : FnScope N ps (defScope st)) (hlen : ∀ ds d, F ds d → ds.length = ps.length ∧ Imm d)
    (body : ∀ (cdv : Value) (A : Around) (outer : List Env) (s : Shared) (H : Hp) (E : XK) (ds : List D) (d : D), Room k (A.deeper (envOfC qual (defScope st) s.heap.objs.size f cdv)) → F ds d →
      ∃ t, PSs (cxP P w K mg base N qual st f cdv A outer s H E) (defBody st) t ∧ SdP (fun _ _ => False) false (ps0 N ds) t (.rt d)) : FnOk P w K mg base (L2.CX P w) (k + 1) f fd ps (SpR F) :=
  Fn.okX S (fun vs H Q E ⟨ds, d, r, hF, _⟩ => by rw [r.len]; exact (hlen ds d hF).1) fun cdv A outer s H vs Q E hr ⟨ds, d, r, hF, q⟩ => by
  obtain ⟨t, ht, hs⟩ := body cdv A outer s H E ds d hr hF
  refine ⟨t, ht, hs (start N vs) H H (Same.refl H) (SL.start r) _ fun v H2 e2 r2 => q v H2 e2 (r2.imm (fun a vs h => ?_) (hlen ds d hF).2)⟩
  rcases ext_cases h with ⟨_, h⟩ | ⟨_, h⟩ | ⟨_, h⟩
  · exact ext_tup h
  · exact ext_tup h
  · exact ext_tup (e2 _ _ h)
/-- the tuples of a heap alone -/
def tups (H : Hp) : Hp := fun a => match H a with
  | some (.tup vs) => some (.tup vs)
  | _ => none
theorem tups_sub (H : Hp) : Sub (tups H) H := fun a o h => by
  unfold tups at h
  split at h
  · rename_i vs e
    rw [e]; exact h
  · cases h
theorem tups_at {H : Hp} {a : Addr} {vs : List V} (h : H a = some (.tup vs)) : tups H a = some (.tup vs) := by
  unfold tups; rw [h]
theorem tups_is {H : Hp} {a : Addr} {o : HO} (h : tups H a = some o) : ∃ vs, o = .tup vs := by
  unfold tups at h
  split at h
  · cases h; exact ⟨_, rfl⟩
  · cases h
theorem tups_ext {H H2 : Hp} (e : Same H H2) : Sub (ext (tups H) H H2) (new H H2) := fun a o h => by
  rcases ext_cases h with ⟨⟨vs, rfl⟩, h⟩ | ⟨h1, h⟩ | ⟨_, h⟩
  · exact ext_tup h
  · exact ext_new h1 h
  · obtain ⟨vs, rfl⟩ := tups_is h
    exact ext_tup (e _ _ (tups_sub _ _ _ h))
/-- a def of arguments that nothing changes; its answer is new -/
theorem ok_new {F : List D → D → Prop} (Fn : Fun K x qual st f fd) (S : FnScope N ps (defScope st)) (hlen : ∀ ds d, F ds d → ds.length = ps.length ∧ ∀ x ∈ ds, Imm x)
    (body : ∀ (cdv : Value) (A : Around) (outer : List Env) (s : Shared) (H : Hp) (E : XK) (ds : List D) (d : D), Room k (A.deeper (envOfC qual (defScope st) s.heap.objs.size f cdv)) → F ds d →
      ∃ t, PSs (cxP P w K mg base N qual st f cdv A outer s H E) (defBody st) t ∧ SdP (fun _ _ => False) true (ps0 N ds) t (.rt d)) : FnOk P w K mg base (L2.CX P w) (k + 1) f fd ps (SpR F) :=
  Fn.okX S (fun vs H Q E ⟨ds, d, r, hF, _⟩ => by rw [r.len]; exact (hlen ds d hF).1) fun cdv A outer s H vs Q E hr ⟨ds, d, r, hF, q⟩ => by
  obtain ⟨t, ht, hs⟩ := body cdv A outer s H E ds d hr hF
  exact ⟨t, ht, hs (start N vs) H (tups H) (tups_sub H) (SL.start (r.imm (fun a vs h => tups_at h) (hlen ds d hF).2)) _ fun v H2 e2 r2 => q v H2 e2 (r2.same (tups_ext e2))⟩
/-- .. or raises C -/
theorem ok_immE {C : Addr} {F : List D → Option D → Prop} (Fn : Fun K x qual st f fd) (S : FnScope N ps (defScope st)) (hlen : ∀ ds o, F ds o → ds.length = ps.length ∧ ∀ d, o = some d → Imm d)
    (body : ∀ (cdv : Value) (A : Around) (outer : List Env) (s : Shared) (H : Hp) (E : XK) (ds : List D) (o : Option D), Room k (A.deeper (envOfC qual (defScope st) s.heap.objs.size f cdv)) → F ds o →
      ∃ t, PSs (cxP P w K mg base N qual st f cdv A outer s H E) (defBody st) t ∧ SdP (fun _ H' => E (.ref C) none H') false (ps0 N ds) t (match o with | some d => .rt d | none => .ex)) : FnOk P w K mg base (L2.CX P w) (k + 1) f fd ps (SpE C F) :=
  Fn.okX S (fun vs H Q E ⟨ds, d, r, hF, _⟩ => by rw [r.len]; exact (hlen ds d hF).1) fun cdv A outer s H vs Q E hr ⟨ds, o, r, hF, q1, q2⟩ => by
  obtain ⟨t, ht, hs⟩ := body cdv A outer s H E ds o hr hF
  refine ⟨t, ht, ?_⟩
  cases o with
  | some d =>
    refine hs (start N vs) H H (Same.refl H) (SL.start r) _ fun v H2 e2 r2 => q1 d rfl v H2 e2 (r2.imm (fun a vs h => ?_) ((hlen ds _ hF).2 d rfl))
    rcases ext_cases h with ⟨_, h⟩ | ⟨_, h⟩ | ⟨_, h⟩
    · exact ext_tup h
    · exact ext_tup h
    · exact ext_tup (e2 _ _ h)
  | none => exact hs (start N vs) H H (Same.refl H) (SL.start r) _ fun σ' H2 e2 => q2 rfl H2 e2
end
end SP
set_option Elab.async false
set_option linter.all false
set_option maxRecDepth 100000
/-! Stillpanes, part 11: loops that fold a state over items and may leave. -/
namespace SP
open PySem L2
variable {α β : Type}
def foldE (f : β → α → β ⊕ Oc) (s : β) : List α → β ⊕ Oc
  | [] => .inl s
  | x :: xs => match f s x with
    | .inl s' => foldE f s' xs
    | .inr o => .inr o
def outE (st : β → Ds) : β ⊕ Oc → Oc
  | .inl s => .nx (st s)
  | .inr o => o
theorem foldE_steps (f : β → α → β ⊕ Oc) : ∀ (xs : List α) (s : β), ∃ (n : Nat) (ss : Nat → β), ss 0 = s ∧ n ≤ xs.length ∧ (∀ i, i < n → ∃ x, xs[i]? = some x ∧ f (ss i) x = .inl (ss (i + 1))) ∧
    ((n = xs.length ∧ foldE f s xs = .inl (ss n)) ∨ (n < xs.length ∧ ∃ x o, xs[n]? = some x ∧ f (ss n) x = .inr o ∧ foldE f s xs = .inr o))
  | [], s => ⟨0, fun _ => s, rfl, Nat.le_refl _, fun i h => absurd h (Nat.not_lt_zero _), .inl ⟨rfl, rfl⟩⟩
  | x :: xs, s => by
    cases e : f s x with
    | inr o => exact ⟨0, fun _ => s, rfl, Nat.zero_le _, fun i h => absurd h (Nat.not_lt_zero _), .inr ⟨by simp, x, o, rfl, e, by simp [foldE, e]⟩⟩
    | inl s' =>
      obtain ⟨n, ss, h0, hn, hs, hf⟩ := foldE_steps f xs s'
      refine ⟨n + 1, fun i => match i with
        | 0 => s
        | i + 1 => ss i, rfl, by simpa using hn, fun i hi => ?_, ?_⟩
      · cases i with
        | zero => exact ⟨x, rfl, show f s x = .inl (ss 0) by rw [h0]; exact e⟩
        | succ i =>
          obtain ⟨y, h1, h2⟩ := hs i (by omega)
          exact ⟨y, by simpa using h1, h2⟩
      · have e2 : foldE f s (x :: xs) = foldE f s' xs := by simp [foldE, e]
        rw [e2]
        rcases hf with ⟨h1, h2⟩ | ⟨h1, y, o, h2, h3, h4⟩
        · exact .inl ⟨by simp [h1], h2⟩
        · exact .inr ⟨by simpa using h1, y, o, by simpa using h2, h3, h4⟩
/-- for x in xs: the state s stands in the slots as st s; J holds of it at each turn -/
theorem sd_foldE {W : L2.St → Hp → Prop} {b : Bool} {ps : Ds} {wi : TI} {g : TG} {ts : TS} {vs : List Nat} (xs : List α) (enc : α → D) (st : β → Ds) (f : β → α → β ⊕ Oc) (s : β) (J : Nat → β → Prop) (hi : IvP b ps wi (xs.map enc)) (h0 : st s = ps) (J0 : J 0 s)
    (step : ∀ i x s, xs[i]? = some x → J i s → ∃ qs, GdP b (st s) g (enc x) qs vs ∧ match f s x with
      | .inl s' => SdP W b qs ts (.nx (st s')) ∧ J (i + 1) s'
      | .inr o => SdP W b qs ts o ∧ ∀ rs, o ≠ .nx rs) {o : Oc} (ho : o = outE st (foldE f s xs)) : SdP W b ps (tFor wi g ts) o := by
  obtain ⟨n, ss, e0, hn, hs, hf⟩ := foldE_steps f xs s
  have hJ : ∀ i, i ≤ n → J i (ss i) := fun i => by
    induction i with
    | zero => intro _; rw [e0]; exact J0
    | succ i ih =>
      intro hi
      obtain ⟨x, h1, h2⟩ := hs i hi
      obtain ⟨qs, _, h3⟩ := step i x (ss i) h1 (ih (by omega))
      rw [h2] at h3
      exact h3.2
  refine sd_for (vs := vs) (items := xs.map enc) (fun i => st (ss i)) n hi (by rw [e0]; exact h0) (fun i d hi hd => ?_) ?_
  · obtain ⟨x, h1, h2⟩ := hs i hi
    rw [List.getElem?_map, h1] at hd
    cases hd
    obtain ⟨qs, hg, h3⟩ := step i x (ss i) h1 (hJ i (by omega))
    rw [h2] at h3
    exact ⟨qs, hg, h3.1⟩
  · rcases hf with ⟨h1, h2⟩ | ⟨h1, x, o', h2, h3, h4⟩
    · exact .inl ⟨by rw [List.length_map]; exact h1, by rw [ho, h2] <;> rfl⟩
    · refine .inr ⟨by rw [List.length_map]; exact h1, fun d hd => ?_⟩
      rw [List.getElem?_map, h2] at hd
      cases hd
      obtain ⟨qs, hg, h5⟩ := step n x (ss n) h2 (hJ n (Nat.le_refl _))
      rw [h3] at h5
      rw [ho, h4]
      exact ⟨qs, hg, h5⟩
/-- a loop that looks for a bad item -/
theorem sd_find {W : L2.St → Hp → Prop} {b : Bool} {ps : Ds} {wi : TI} {g : TG} {ts : TS} {vs : List Nat} (xs : List α) (enc : α → D) (bad : α → Bool) (r : D) (hi : IvP b ps wi (xs.map enc))
    (fv : List Nat) (step : ∀ x ∈ xs, ∃ qs rs, GdP b ps g (enc x) qs vs ∧ wipeP rs fv = ps ∧ SdP W b qs ts (if bad x = true then .rt r else .nx rs)) : SdP W b ps (tFor wi g ts) (if xs.any bad = true then .rt r else .nx ps) := by
  refine sd_foldE (vs := vs) (β := Unit) xs enc (fun _ => ps) (fun _ x => if bad x = true then .inr (.rt r) else .inl ()) () (fun _ _ => True) hi rfl trivial (fun i x s hx _ => ?_) ?_
  · obtain ⟨qs, rs, h1, h2, h3⟩ := step x (List.mem_of_getElem? hx)
    refine ⟨qs, h1, ?_⟩
    cases e : bad x with
    | true =>
      rw [e, if_pos rfl] at h3
      exact ⟨h3, fun rs z => nomatch z⟩
    | false =>
      rw [e, if_neg (by decide)] at h3
      exact ⟨sd_fgt fv h3 h2, trivial⟩
  · have key : ∀ ys : List α, (if ys.any bad = true then Oc.rt r else Oc.nx ps) = outE (fun _ => ps) (foldE (β := Unit) (fun _ x => if bad x = true then .inr (.rt r) else .inl ()) () ys) := fun ys => by
      induction ys with
      | nil => rfl
      | cons x xs ih =>
        rw [List.any_cons]
        cases e : bad x with
        | true => simp [foldE, e, outE]
        | false =>
          simp only [Bool.false_or, foldE, e, Bool.false_eq_true, if_false]
          exact ih
    exact key xs
theorem sd_findS {W : L2.St → Hp → Prop} {b : Bool} {ps : Ds} {wi : TI} {g : TG} {ts tu : TS} {vs : List Nat} {o : Oc} (xs : List α) (enc : α → D) (bad : α → Bool) (r : D) (fv : List Nat) (hi : IvP b ps wi (xs.map enc))
    (step : ∀ x ∈ xs, ∃ qs rs, GdP b ps g (enc x) qs vs ∧ wipeP rs fv = ps ∧ SdP W b qs ts (if bad x = true then .rt r else .nx rs)) (h1 : xs.any bad = true → o = .rt r) (h2 : xs.any bad = false → SdP W b ps tu o) : SdP W b ps (tSeq (tFor wi g ts) tu) o := by
  have loop := sd_find (W := W) xs enc bad r hi fv step
  cases hb : xs.any bad with
  | true =>
    rw [hb, if_pos rfl] at loop
    rw [h1 hb]
    exact sd_seqR loop
  | false =>
    rw [hb, if_neg (by decide)] at loop
    exact sd_seq loop (h2 hb)
theorem sd_foldES {W : L2.St → Hp → Prop} {b : Bool} {ps : Ds} {wi : TI} {g : TG} {ts tu : TS} {vs : List Nat} (xs : List α) (enc : α → D) (st : β → Ds) (f : β → α → β ⊕ Oc) (s : β) (J : Nat → β → Prop) (hi : IvP b ps wi (xs.map enc)) (h0 : st s = ps) (J0 : J 0 s)
    (step : ∀ i x s, xs[i]? = some x → J i s → ∃ qs, GdP b (st s) g (enc x) qs vs ∧ match f s x with
      | .inl s' => SdP W b qs ts (.nx (st s')) ∧ J (i + 1) s'
      | .inr o => SdP W b qs ts o ∧ ∀ rs, o ≠ .nx rs) {o : Oc} (h1 : ∀ s', foldE f s xs = .inl s' → SdP W b (st s') tu o) (h2 : ∀ o', foldE f s xs = .inr o' → o = o' ∧ ∀ rs, o ≠ .nx rs) : SdP W b ps (tSeq (tFor wi g ts) tu) o := by
  have loop := sd_foldE (W := W) xs enc st f s J hi h0 J0 step (o := outE st (foldE f s xs)) rfl
  cases hb : foldE f s xs with
  | inl s' =>
    rw [hb] at loop
    exact sd_seq loop (h1 s' hb)
  | inr o' =>
    rw [hb] at loop
    obtain ⟨rfl, hno⟩ := h2 o' hb
    have loop : SdP W b ps (tFor wi g ts) o := loop
    cases o with
    | nx rs => exact absurd rfl (hno rs)
    | rt d => exact sd_seqR loop
    | ex => exact sd_seqX loop
theorem gd_1 {b : Bool} {ps : Ds} {i : Nat} {d : D} : GdP b ps (gName i) d (ps.set i (some d)) [i] := gd_name (List.mem_singleton.mpr rfl)
theorem sd_ifB {W : L2.St → Hp → Prop} {b : Bool} {ps : Ds} {ts tu : TS} {tt : TT} {o1 o2 : Oc} {c : Bool} (h : EtP b ps tt c) (h1 : c = true → SdP W b ps ts o1) (h2 : c = false → SdP W b ps tu o2) : SdP W b ps (tIfS tt ts tu) (if c = true then o1 else o2) := by
  cases c with
  | true => exact sd_if h (fun z => by rw [if_pos rfl]; exact h1 z) (fun z => nomatch z)
  | false => exact sd_if h (fun z => nomatch z) (fun z => by rw [if_neg (by decide)]; exact h2 z)
end SP
set_option Elab.async false
set_option linter.all false
set_option maxRecDepth 100000
/-! Stillpanes, the text by places; what its top says of names. -/
namespace SP
open PySem L2 PySem.Spec PyProof.Rows
def top (i : Nat) : Stmt := PySem.Challenge.pw_stillpanes_k39_whole_fewest_moved_beside.main.body.getD i (.Pass ⟨0, 0, 0, 0⟩)
structure Txt (mg : Str → Option Value) : Prop where
  len_ : mg "len" = none
  sum_ : mg "sum" = none
  abs_ : mg "abs" = none
  any_ : mg "any" = none
  all_ : mg "all" = none
  min_ : mg "min" = none
  max_ : mg "max" = none
  isinstance_ : mg "isinstance" = none
  sorted_ : mg "sorted" = none
  int_ : mg "int" = none
  tuple_ : mg "tuple" = none
  list_ : mg "list" = none
  dict_ : mg "dict" = none
  bool_ : mg "bool" = none
  str_ : mg "str" = none
  ValueError_ : mg "ValueError" = none
  enumerate_ : mg "enumerate" = none
  zip_ : mg "zip" = none
  range_ : mg "range" = none
  most : ∃ t, mg "MOST_STATES" = some (.int 4000 t)
theorem bt_len : bootBuiltins "len" = some (.builtin "len") := by decide +kernel
theorem bt_sum : bootBuiltins "sum" = some (.builtin "sum") := by decide +kernel
theorem bt_abs : bootBuiltins "abs" = some (.builtin "abs") := by decide +kernel
theorem bt_any : bootBuiltins "any" = some (.builtin "any") := by decide +kernel
theorem bt_all : bootBuiltins "all" = some (.builtin "all") := by decide +kernel
theorem bt_min : bootBuiltins "min" = some (.builtin "min") := by decide +kernel
theorem bt_max : bootBuiltins "max" = some (.builtin "max") := by decide +kernel
theorem bt_isinstance : bootBuiltins "isinstance" = some (.builtin "isinstance") := by decide +kernel
theorem bt_sorted : bootBuiltins "sorted" = some (.builtin "sorted") := by decide +kernel
theorem bt_int : bootBuiltins "int" = some (.type "int") := by decide +kernel
theorem bt_tuple : bootBuiltins "tuple" = some (.type "tuple") := by decide +kernel
theorem bt_list : bootBuiltins "list" = some (.type "list") := by decide +kernel
theorem bt_dict : bootBuiltins "dict" = some (.type "dict") := by decide +kernel
theorem bt_bool : bootBuiltins "bool" = some (.type "bool") := by decide +kernel
theorem bt_str : bootBuiltins "str" = some (.type "str") := by decide +kernel
theorem bt_ValueError : bootBuiltins "ValueError" = some (.type "ValueError") := by decide +kernel
theorem pe_most {X : Cx} {pos : Pos} (T : Txt X.mg) (hg : Gl X "MOST_STATES" := by rfl) : PE X (.Name "MOST_STATES" pos) (tC (.int 4000)) := by
  obtain ⟨t, e⟩ := T.most
  exact pe_glob hg e ⟨t, rfl⟩
theorem un_of {A : Around} {k n : Nat} (hr : Room k A) (h : n ≤ 200 := by decide) : A.units + n < cLine := by
  have := hr.un
  omega
/-! the kit's rules with the written part told apart -/
section
variable (K : PySem.W.Frag) {X : Cx} {tg e e2 : Expr} {te : TE} {ta : TA} {p p2 q pos tpos : Pos} {elts es : List Expr} {kk n : Nat}
theorem ixT_ (h : X.K = K := by rfl) : IxR X (rIxT K) := by subst h; exact ix_tup
theorem ixL_ (h : X.K = K := by rfl) : IxR X (rIxL K) := by subst h; exact ix_list
theorem slL_ (h : X.K = K := by rfl) : SlR X (rSlL K) := by subst h; exact sl_list
theorem slT_ (h : X.K = K := by rfl) : SlR X (rSlA K) := by subst h; exact sl_tupA
theorem catT_ (h : X.K = K := by rfl) : OpR X (binaryOp .Add) (rCatA K) := by subst h; exact op_catA
theorem repT_ (h : X.K = K := by rfl) : OpR X (binaryOp .Mult) (rRepT K) := by subst h; exact op_repT
theorem inS_ (h : X.K = K := by rfl) : OpR X (compareOp .In) (rIn K false) := by subst h; exact op_in_seq
theorem ninS_ (h : X.K = K := by rfl) : OpR X (compareOp .NotIn) (rIn K true) := by subst h; exact op_notIn_seq
theorem inD_ (hu : X.A.units + 65 < cLine) (h : X.K = K := by rfl) : OpR X (compareOp .In) (rInD K) := by subst h; exact op_inD hu
theorem eqD_ (hu : X.A.units + 64 < cLine) (h : X.K = K := by rfl) : OpR X (compareOp .Eq) (rEqD K) := by subst h; exact op_eqD hu
theorem neD_ (hu : X.A.units + 64 < cLine) (h : X.K = K := by rfl) : OpR X (compareOp .NotEq) (rNeD K) := by subst h; exact op_neD hu
theorem sum_ (hc : X.calm = true) (h : X.K = K := by rfl) : CallR X (.builtin "sum") (rSum K) := by subst h; exact cr_sum hc
theorem any_ (hc : X.calm = true) (h : X.K = K := by rfl) : CallR X (.builtin "any") (rAny K) := by subst h; exact cr_any hc
theorem all_ (hc : X.calm = true) (h : X.K = K := by rfl) : CallR X (.builtin "all") (rAll K) := by subst h; exact cr_all hc
theorem max_ (hc : X.calm = true) (h : X.K = K := by rfl) : CallR X (.builtin "max") (rMax K) := by subst h; exact cr_max hc
theorem min_ (hc : X.calm = true) (h : X.K = K := by rfl) : CallR X (.builtin "min") (rMin K) := by subst h; exact cr_min hc
theorem minD_ (hc : X.calm = true) (hu : X.A.units + 64 < cLine) (h : X.K = K := by rfl) : CallR X (.builtin "min") (rMinD K) := by subst h; exact cr_minD hc hu
theorem sortD_ (hc : X.calm = true) (hu : X.A.units + 64 < cLine) (h : X.K = K := by rfl) : CallR X (.builtin "sorted") (rSortD K) := by subst h; exact cr_sortD hc hu
theorem len_ (h : X.K = K := by rfl) : CallR X (.builtin "len") (rLenQ K) := by subst h; exact call_len_seq
theorem tup_ (h : X.K = K := by rfl) : CallR X (.type "tuple") (rTupQ K) := by subst h; exact call_tuple_of
theorem lst_ (h : X.K = K := by rfl) : CallR X (.type "list") (rLstQ K) := by subst h; exact call_list_of
theorem isi_ (h : X.K = K := by rfl) : CallR X (.builtin "isinstance") (rIsi K) := by subst h; exact call_isi
theorem isiT_ (h : X.K = K := by rfl) : CallR X (.builtin "isinstance") (rIsiT K) := by subst h; exact call_isiT
theorem revL_ {k : Nat} {p1 p3 : Pos} (he : PE X e te) (h : X.K = K := by rfl) : PE X (.Subscript e (.Slice none none (some (.UnaryOp .USub (.Constant (.int 1) k p1) p2)) p3) pos) (tRevL K te) := by subst h; exact pe_revL he
theorem iL_ (he : PE X e te) (h : X.K = K := by rfl) : PI X tg e (iList K te) := by subst h; exact pi_list he
theorem iT_ (he : PE X e te) (h : X.K = K := by rfl) : PI X tg e (iTup K te) := by subst h; exact pi_tup he
theorem eT_ (hg : Gl X "enumerate") (hm : X.mg "enumerate" = none) (ha : PA X [e] ta) (h : X.K = K := by rfl) (hs : starEach [e] X.env = [(false, eval e X.env)] := by rfl) : PI X (.Tuple elts kk tpos) (.Call (.Name "enumerate" p) [e] [] pos) (iEnumT K ta) := by subst h; exact pi_enumT hg hm ha hs
theorem eL_ (hg : Gl X "enumerate") (hm : X.mg "enumerate" = none) (ha : PA X [e] ta) (h : X.K = K := by rfl) (hs : starEach [e] X.env = [(false, eval e X.env)] := by rfl) : PI X (.Tuple elts kk tpos) (.Call (.Name "enumerate" p) [e] [] pos) (iEnum K ta) := by subst h; exact pi_enum hg hm ha hs
theorem eZ_ (hg : Gl X "enumerate") (hm : X.mg "enumerate" = none) (hg2 : Gl X "zip") (hm2 : X.mg "zip" = none) (ha : PA X [e, e2] ta) (h : X.K = K := by rfl)
    (hs : starEach [e, e2] X.env = (false, eval e X.env) :: starEach [e2] X.env := by rfl) (hpl : (backTo q (starEach [e2] X.env)).any (·.1) = false := by rfl) : PI X (.Tuple elts kk tpos) (.Call (.Name "enumerate" p) [.Call (.Name "zip" p2) [e, e2] [] q] [] pos) (iEnumZ K ta) := by subst h; exact pi_enumZ hg hm hg2 hm2 ha hs hpl
theorem zA_ (hg : Gl X "zip") (hm : X.mg "zip" = none) (ha : PA X [e, e2] ta) (h : X.K = K := by rfl)
    (hs : starEach [e, e2] X.env = (false, eval e X.env) :: starEach [e2] X.env := by rfl) (hpl : (backTo pos (starEach [e2] X.env)).any (·.1) = false := by rfl) : PI X (.Tuple elts kk tpos) (.Call (.Name "zip" p) [e, e2] [] pos) (RZ.iZipA K ta) := by subst h; exact RZ.pi_zipA hg hm ha hs hpl
theorem gT_ {t : TGs} (hc : X.calm = true) (hp : PGs X es t) (h : X.K = K := by rfl) (hn : (assignEach es X.env).length = n := by rfl) (hst : (assignEach es X.env).findIdx? (·.1) = none := by rfl) : PG X (.Tuple es kk pos) (gTup K n t) := by subst h; exact pg_tup hc hp hn hst
theorem orT_ {a b : Expr} {rest : List Expr} {t1 t2 : TE} (ha : PE X a t1) (hb : PE X (.BoolOp .Or (b :: rest) pos) t2) (h : X.K = K := by rfl) : PE X (.BoolOp .Or (a :: b :: rest) pos) (tOrT K t1 t2) := by subst h; exact pe_orT ha hb
end
end SP
set_option Elab.async false
set_option linter.all false
set_option maxRecDepth 100000
/-! Stillpanes, part 12: bodies that hold objects of their own. -/
namespace SP
open PySem L2

/-- the part of the heap that is told: no tuple but those of now, what the entry knew, what is new; without the objects of A -/
def Gx (A : List Addr) (G0 H0 H : Hp) : Hp := hid A (ext G0 H0 H)
/-- within a body: H0 and G0 at the entry; C stands at A -/
structure At (b : Bool) (G0 H0 : Hp) (A : List Addr) (C : Hp) (ps : Ds) (σ : L2.St) (H : Hp) : Prop where
  sub : Sub G0 H0
  out : Out A G0
  same : SameX A H0 H
  own : Own A C H
  sl : SL b (Gx A G0 H0 H) σ ps
section
variable {b : Bool} {G0 H0 : Hp} {A : List Addr} {C C' : Hp} {ps qs : Ds} {σ : L2.St} {H H' : Hp}
theorem gx_sub (s : Sub G0 H0) (o : Out A G0) (e : SameX A H0 H) : Sub (Gx A G0 H0 H) H := fun a u h => extX_sub s o e _ _ (hid_sub _ _ h)
theorem gx_out : Out A (Gx A G0 H0 H) := fun a m => hid_in m
theorem At.gsub (a : At b G0 H0 A C ps σ H) : Sub (Gx A G0 H0 H) H := gx_sub a.sub a.out a.same
/-- what is told grows -/
theorem gx_grow (s : Sub G0 H0) (o : Out A G0) (e : SameX A H0 H) (w : Own A C H) (e2 : SameX A H H') (w2 : Own A C' H') : Sub (ext (Gx A G0 H0 H) H H') (Gx A G0 H0 H') := fun a u h => by
  have hA : a ∉ A := fun m => by
    rw [extX_out w w2 gx_out a m] at h; cases h
  unfold Gx
  rw [hid_out hA]
  rcases ext_cases h with ⟨⟨vs, rfl⟩, h⟩ | ⟨h1, h⟩ | ⟨_, h⟩
  · exact ext_tup h
  · exact ext_new (free_in e w h1) h
  · have h := hid_sub _ _ h
    rcases ext_cases h with ⟨⟨vs, rfl⟩, h⟩ | ⟨h1, h⟩ | ⟨_, h⟩
    · exact ext_tup (e2 _ _ hA h)
    · exact ext_new h1 (e2 _ _ hA h)
    · exact extX_ge s o (e.trans e2) _ _ h
theorem gx_up (s : Sub G0 H0) (o : Out A G0) (e : SameX A H0 H) (w : Own A C H) (e2 : SameX A H H') (w2 : Own A C' H') : Sub (Gx A G0 H0 H) (Gx A G0 H0 H') := fun a u h => gx_grow s o e w e2 w2 _ _ (extX_ge (gx_sub s o e) gx_out e2 _ _ h)
theorem At.up (a : At b G0 H0 A C ps σ H) (e : SameX A H H') (w : Own A C' H') : Sub (Gx A G0 H0 H) (Gx A G0 H0 H') := gx_up a.sub a.out a.same a.own e w
theorem At.mono (a : At b G0 H0 A C ps σ H) (e : SameX A H H') (w : Own A C' H') : At b G0 H0 A C' ps σ H' := ⟨a.sub, a.out, a.same.trans e, w, a.sl.same (a.up e w)⟩
theorem At.same' (a : At b G0 H0 A C ps σ H) (e : Same H H') : At b G0 H0 A C ps σ H' := a.mono (.of e) (a.own.same e)
theorem At.set (a : At b G0 H0 A C ps σ H) {v : V} {d : D} (i : Nat) (r : R b (Gx A G0 H0 H) v d) : At b G0 H0 A C (ps.set i (some d)) (σ.set i (some v)) H := ⟨a.sub, a.out, a.same, a.own, a.sl.set i r⟩
theorem At.fgt (a : At b G0 H0 A C ps σ H) (vs : List Nat) (h : wipeP ps vs = qs) : At b G0 H0 A C qs σ H := ⟨a.sub, a.out, a.same, a.own, by rw [← h]; exact a.sl.fgt vs⟩
/-- an expression -/
theorem At.ev (a : At b G0 H0 A C ps σ H) {te : TE} {d : D} {Q : VK} (h : EvX A C b ps te d C') (k : ∀ v H', SameX A H H' → At b G0 H0 A C' ps σ H' → R b (Gx A G0 H0 H') v d → Q v H') : te σ H Q :=
  h σ H _ a.gsub gx_out a.own a.sl Q fun v H2 e w r => k v H2 e (a.mono e w) (r.same (gx_grow a.sub a.out a.same a.own e w))
theorem At.evP (a : At b G0 H0 A C ps σ H) {te : TE} {d : D} {Q : VK} (h : EvP b ps te d) (k : ∀ v H', Same H H' → At b G0 H0 A C ps σ H' → R b (Gx A G0 H0 H') v d → Q v H') : te σ H Q :=
  h σ H _ a.gsub a.sl Q fun v H2 e r => k v H2 e (a.same' e) (r.same (gx_grow a.sub a.out a.same a.own (.of e) (a.own.same e)))
theorem At.eaP (a : At b G0 H0 A C ps σ H) {ta : TA} {ds : List D} {Q : List V → Hp → Prop} (h : EaP b ps ta ds) (k : ∀ vs H', Same H H' → At b G0 H0 A C ps σ H' → RL b (Gx A G0 H0 H') vs ds → Q vs H') : ta σ H Q :=
  h σ H _ a.gsub a.sl Q fun v H2 e r => k v H2 e (a.same' e) (r.same (gx_grow a.sub a.out a.same a.own (.of e) (a.own.same e)))
theorem At.etP (a : At b G0 H0 A C ps σ H) {tt : TT} {c : Bool} {Q : Bool → Hp → Prop} (h : EtP b ps tt c) (k : ∀ H', Same H H' → At b G0 H0 A C ps σ H' → Q c H') : tt σ H Q :=
  h σ H _ a.gsub a.sl Q fun H2 e => k H2 e (a.same' e)
/-- name = e -/
theorem At.asg (a : At b G0 H0 A C ps σ H) {te : TE} {d : D} {i : Nat} {Dn : Ends} (h : EvX A C b ps te d C') (k : ∀ v H', SameX A H H' → At b G0 H0 A C' (ps.set i (some d)) (σ.set i (some v)) H' → Dn.nx (σ.set i (some v)) H') : tAsg te (gName i) Dn σ H :=
  a.ev h fun v H' e a' r => k v H' e (a'.set i r)
/-- a statement that leaves the own objects alone -/
theorem At.sd (a : At b G0 H0 A C ps σ H) {W : L2.St → Hp → Prop} {ts : TS} {Dn : Ends} (h : SdP W b ps ts (.nx qs)) (k : ∀ σ' H', Same H H' → At b G0 H0 A C qs σ' H' → Dn.nx σ' H') : ts Dn σ H :=
  h σ H _ a.gsub a.sl Dn fun σ' H2 e l => k σ' H2 e ⟨a.sub, a.out, a.same.trans (.of e), a.own.same e, l.same (gx_grow a.sub a.out a.same a.own (.of e) (a.own.same e))⟩
/-- a target -/
theorem At.gd (a : At b G0 H0 A C ps σ H) {g : TG} {d : D} {vs : List Nat} {v : V} {Q : L2.St → Hp → Prop} (hg : GdP b ps g d qs vs) (r : R b (Gx A G0 H0 H) v d) (k : ∀ σ', At b G0 H0 A C qs σ' H → Q σ' H) : g v σ H Q :=
  hg v σ H _ a.gsub a.sl r Q fun σ' l _ => k σ' ⟨a.sub, a.out, a.same, a.own, l⟩
/-- a new object of its own -/
theorem At.own_ (a : At b G0 H0 A C ps σ H) {p : Addr} {o : HO} (hp : H p = none) (nt : NT o) : At b G0 H0 (p :: A) (upd C p o) ps σ (upd H p o) ∧ p ∉ A ∧ H0 p = none := by
  have hpA : p ∉ A := fun m => by
    obtain ⟨u, _, i, _⟩ := a.own p m
    rw [hp] at i; cases i
  have h0 : H0 p = none := by
    cases e : H0 p with
    | none => rfl
    | some u => rw [a.same p u hpA e] at hp; cases hp
  refine ⟨⟨a.sub, fun c m => ?_, fun c u m e => ?_, fun c m => ?_, a.sl.same fun c u h => ?_⟩, hpA, h0⟩
  · rcases List.mem_cons.mp m with rfl | m
    · cases e : G0 c with
      | none => rfl
      | some u => rw [a.sub _ _ e] at h0; cases h0
    · exact a.out c m
  · have hc : c ≠ p := fun z => m (by rw [z]; exact List.mem_cons_self ..)
    rw [upd_ne hc]
    exact a.same c u (fun z => m (List.mem_cons_of_mem _ z)) e
  · by_cases hc : c = p
    · subst hc
      exact ⟨o, upd_same, upd_same, nt⟩
    · rcases List.mem_cons.mp m with z | m
      · exact absurd z hc
      · obtain ⟨u, h1, h2, h3⟩ := a.own c m
        exact ⟨u, by rw [upd_ne hc]; exact h1, by rw [upd_ne hc]; exact h2, h3⟩
  · have hcA : c ∉ A := fun m => by rw [gx_out c m] at h; cases h
    have hc : c ≠ p := fun z => by
      rw [z] at h
      rw [a.gsub _ _ h] at hp; cases hp
    unfold Gx at h ⊢
    rw [hid_out hcA] at h
    rw [hid_out (fun m => (List.mem_cons.mp m).elim hc hcA)]
    unfold ext at h ⊢
    rw [upd_ne hc]
    exact h
theorem At.write (a : At b G0 H0 A C ps σ H) {p : Addr} {o : HO} (hp : p ∈ A) (nt : NT o) : At b G0 H0 A (upd C p o) ps σ (upd H p o) := by
  refine ⟨a.sub, a.out, fun c u m e => ?_, fun c m => ?_, a.sl.same fun c u h => ?_⟩
  · rw [upd_ne (fun z => m (by rw [z]; exact hp))]
    exact a.same c u m e
  · by_cases hc : c = p
    · subst hc
      exact ⟨o, upd_same, upd_same, nt⟩
    · obtain ⟨u, h1, h2, h3⟩ := a.own c m
      exact ⟨u, by rw [upd_ne hc]; exact h1, by rw [upd_ne hc]; exact h2, h3⟩
  · have hcA : c ∉ A := fun m => by rw [gx_out c m] at h; cases h
    have hc : c ≠ p := fun z => hcA (by rw [z]; exact hp)
    unfold Gx at h ⊢
    rw [hid_out hcA] at h ⊢
    unfold ext at h ⊢
    rw [upd_ne hc]
    exact h
theorem gx_write {p : Addr} {o : HO} (hp : p ∈ A) : Gx A G0 H0 (upd H p o) = Gx A G0 H0 H := by
  funext c
  unfold Gx hid
  by_cases hc : c ∈ A
  · rw [if_pos hc, if_pos hc]
  · rw [if_neg hc, if_neg hc]
    unfold ext
    rw [upd_ne (fun z => hc (by rw [z]; exact hp))]
/-- an object of its own, from now on told -/
theorem At.rel {p : Addr} (a : At b G0 H0 (p :: A) C ps σ H) (hp : p ∉ A) (h0 : H0 p = none) : At b G0 H0 A C ps σ H ∧ Sub (Gx (p :: A) G0 H0 H) (Gx A G0 H0 H) ∧ Gx A G0 H0 H p = C p := by
  have up : Sub (Gx (p :: A) G0 H0 H) (Gx A G0 H0 H) := fun c u h => by
    have hc : c ∉ p :: A := fun m => by rw [gx_out c m] at h; cases h
    unfold Gx at h ⊢
    rw [hid_out hc] at h
    rw [hid_out (fun m => hc (List.mem_cons_of_mem _ m))]
    exact h
  refine ⟨⟨a.sub, fun c m => a.out c (List.mem_cons_of_mem _ m), fun c u m e => a.same c u (fun z => ?_) e, fun c m => a.own c (List.mem_cons_of_mem _ m), a.sl.same up⟩, up, ?_⟩
  · rcases List.mem_cons.mp z with rfl | z
    · rw [h0] at e; cases e
    · exact m z
  · obtain ⟨u, h1, h2, h3⟩ := a.own p (List.mem_cons_self ..)
    unfold Gx
    rw [hid_out hp, h1]
    exact ext_new h0 h2
/-- an invariant by the turn: what stands at A, what the slots hold, and what Φ says of these -/
def IvG (b : Bool) (G0 H0 : Hp) (A : List Addr) (Φ : Nat → Hp → Hp → Ds → Prop) (H1 : Hp) (i : Nat) (σ : L2.St) (H : Hp) : Prop :=
  SameX A H1 H ∧ ∃ C ps, At b G0 H0 A C ps σ H ∧ Φ i (Gx A G0 H0 H) C ps
def Ivt (b : Bool) (G0 H0 : Hp) (A : List Addr) (Φ : Nat → Hp → Ds → Prop) (H1 : Hp) (i : Nat) (σ : L2.St) (H : Hp) : Prop :=
  SameX A H1 H ∧ ∃ C ps, At b G0 H0 A C ps σ H ∧ Φ i C ps
theorem At.forV (a : At b G0 H0 A C ps σ H) {wi : TI} {g : TG} {tb : TS} {items : List D} {Dn : Ends} (Φ : Nat → Hp → Hp → Ds → Prop) (mono : ∀ i G G' C ps, Φ i G C ps → Sub G G' → Φ i G' C ps)
    (hi : ∀ Rr : It → Hp → Prop, (∀ J H2, Same H H2 → Walk b J (ext (Gx A G0 H0 H) H H2) items → Rr J H2) → wi σ H Rr) (h0 : Φ 0 (Gx A G0 H0 H) C ps)
    (step : ∀ H1 i d σ' H' v C' ps', SameX A H H1 → items[i]? = some d → SameX A H1 H' → At b G0 H0 A C' ps' σ' H' → Φ i (Gx A G0 H0 H') C' ps' → R b (Gx A G0 H0 H') v d →
      g v σ' H' fun σ2 H2 => tb { Dn with nx := IvG b G0 H0 A Φ H1 (i + 1), ct := IvG b G0 H0 A Φ H1 (i + 1), bk := Dn.nx } σ2 H2)
    (fin : ∀ σ' H' C' ps', SameX A H H' → At b G0 H0 A C' ps' σ' H' → Φ items.length (Gx A G0 H0 H') C' ps' → Dn.nx σ' H') : tFor wi g tb Dn σ H :=
  hi _ fun J H1 e1 walk => by
  have a1 := a.same' e1
  have s1 := ext_sub a.gsub e1
  have x1 : Out A (ext (Gx A G0 H0 H) H H1) := extX_out a.own a1.own gx_out
  refine ⟨fun i m σ' Hc => m = items.length - i ∧ i ≤ items.length ∧ IvG b G0 H0 A Φ H1 i σ' Hc, ⟨items.length, rfl, Nat.zero_le _, SameX.refl _, C, ps, a1, mono _ _ _ _ _ h0 (a.up (.of e1) a1.own)⟩, ?_⟩
  rintro i m σ' Hc ⟨rfl, hle, ec, C', ps', ac, hΦ⟩
  have sc : Sub (ext (Gx A G0 H0 H) H H1) Hc := fun c u h => ec c u (fun m => by rw [x1 c m] at h; cases h) (s1 c u h)
  by_cases hlt : i < items.length
  · obtain ⟨hgo, hy⟩ := (walk i Hc sc).1 hlt
    refine .inr ⟨hgo, IvG b G0 H0 A Φ H1 (i + 1), fun σ2 H' z => ⟨items.length - (i + 1), by omega, rfl, hlt, z⟩, fun x H2 hyl => ?_⟩
    obtain ⟨e2, d, hd, rd⟩ := hy x H2 hyl
    have a2 := ac.same' e2
    have hr : R b (Gx A G0 H0 H2) x d := rd.same fun c u h => by
      have hA : c ∉ A := fun m => by
        have z := extX_out (C := C') (C2 := C') ac.own a2.own x1 c m
        rw [z] at h; cases h
      unfold Gx
      rw [hid_out hA]
      rcases ext_cases h with ⟨⟨vs, rfl⟩, h⟩ | ⟨h1, h⟩ | ⟨_, h⟩
      · exact ext_tup h
      · exact ext_new (free_in ac.same ac.own h1) h
      · have z := gx_grow a.sub a.out a.same a.own (.of e1) a1.own _ _ h
        have z2 := gx_up (C' := C') a1.sub a1.out a1.same a1.own (ec.trans (.of e2)) a2.own _ _ z
        unfold Gx at z2
        rw [hid_out hA] at z2
        exact z2
    exact step H1 i d σ' H2 x C' ps' (.of e1) hd (ec.trans (.of e2)) a2 (mono _ _ _ _ _ hΦ (ac.up (.of e2) a2.own)) hr
  · have e : i = items.length := by omega
    subst e
    exact .inl ⟨(walk _ Hc sc).2 (Nat.le_refl _), fin σ' Hc C' ps' ((SameX.of e1).trans ec) ac hΦ⟩
theorem At.forW (a : At b G0 H0 A C ps σ H) {wi : TI} {g : TG} {tb : TS} {items : List D} {Dn : Ends} (Φ : Nat → Hp → Ds → Prop)
    (hi : ∀ Rr : It → Hp → Prop, (∀ J H2, Same H H2 → Walk b J (ext (Gx A G0 H0 H) H H2) items → Rr J H2) → wi σ H Rr) (h0 : Φ 0 C ps)
    (step : ∀ H1 i d σ' H' v C' ps', SameX A H H1 → items[i]? = some d → SameX A H1 H' → At b G0 H0 A C' ps' σ' H' → Φ i C' ps' → R b (Gx A G0 H0 H') v d →
      g v σ' H' fun σ2 H2 => tb { Dn with nx := Ivt b G0 H0 A Φ H1 (i + 1), ct := Ivt b G0 H0 A Φ H1 (i + 1), bk := Dn.nx } σ2 H2)
    (fin : ∀ σ' H' C' ps', SameX A H H' → At b G0 H0 A C' ps' σ' H' → Φ items.length C' ps' → Dn.nx σ' H') : tFor wi g tb Dn σ H :=
  a.forV (fun i _ C ps => Φ i C ps) (fun _ _ _ _ _ h _ => h) hi h0 step fin
theorem At.forG (a : At b G0 H0 A C ps σ H) {wi : TI} {g : TG} {tb : TS} {items : List D} {Dn : Ends} (Φ : Nat → Hp → Hp → Ds → Prop) (mono : ∀ i G G' C ps, Φ i G C ps → Sub G G' → Φ i G' C ps) (hi : IvP b ps wi items) (h0 : Φ 0 (Gx A G0 H0 H) C ps)
    (step : ∀ H1 i d σ' H' v C' ps', SameX A H H1 → items[i]? = some d → SameX A H1 H' → At b G0 H0 A C' ps' σ' H' → Φ i (Gx A G0 H0 H') C' ps' → R b (Gx A G0 H0 H') v d →
      g v σ' H' fun σ2 H2 => tb { Dn with nx := IvG b G0 H0 A Φ H1 (i + 1), ct := IvG b G0 H0 A Φ H1 (i + 1), bk := Dn.nx } σ2 H2)
    (fin : ∀ σ' H' C' ps', SameX A H H' → At b G0 H0 A C' ps' σ' H' → Φ items.length (Gx A G0 H0 H') C' ps' → Dn.nx σ' H') : tFor wi g tb Dn σ H :=
  a.forV Φ mono (fun Rr q => hi σ H _ a.gsub a.sl Rr q) h0 step fin
theorem At.for_ (a : At b G0 H0 A C ps σ H) {wi : TI} {g : TG} {tb : TS} {items : List D} {Dn : Ends} (Φ : Nat → Hp → Ds → Prop) (hi : IvP b ps wi items) (h0 : Φ 0 C ps)
    (step : ∀ H1 i d σ' H' v C' ps', SameX A H H1 → items[i]? = some d → SameX A H1 H' → At b G0 H0 A C' ps' σ' H' → Φ i C' ps' → R b (Gx A G0 H0 H') v d →
      g v σ' H' fun σ2 H2 => tb { Dn with nx := Ivt b G0 H0 A Φ H1 (i + 1), ct := Ivt b G0 H0 A Φ H1 (i + 1), bk := Dn.nx } σ2 H2)
    (fin : ∀ σ' H' C' ps', SameX A H H' → At b G0 H0 A C' ps' σ' H' → Φ items.length C' ps' → Dn.nx σ' H') : tFor wi g tb Dn σ H :=
  a.forW Φ (fun Rr q => hi σ H _ a.gsub a.sl Rr q) h0 step fin
/-- all that the slots hold nothing changes -/
def AllImm (ps : Ds) : Prop := ∀ (i : Nat) (d : D), ps[i]? = some (some d) → Imm d
theorem SL.imm {b' : Bool} {G G' : Hp} (l : SL b G σ ps) (i : AllImm ps) (t : TupLe G G') : SL b' G' σ ps := ⟨l.1, fun j d e => let ⟨v, h1, r⟩ := l.2 j d e; ⟨v, h1, r.imm t (i j d e)⟩⟩
theorem gx_at {p : Addr} (h0 : H0 p = none) (hA : p ∉ A) {o : HO} (h : H p = some o) : Gx A G0 H0 H p = some o := by
  unfold Gx
  rw [hid_out hA]
  exact ext_new h0 h
theorem gx_tup (s : Sub G0 H0) (o : Out A G0) (e : SameX A H0 H) {a : Addr} {vs : List V} (h : Gx A G0 H0 H a = some (.tup vs)) : H a = some (.tup vs) := gx_sub s o e _ _ h
theorem gx_of_tup {a : Addr} {vs : List V} (w : Own A C H) (h : H a = some (.tup vs)) : Gx A G0 H0 H a = some (.tup vs) := by
  have hA : a ∉ A := fun m => by
    obtain ⟨o, _, i, n⟩ := w a m
    rw [h] at i; cases i; exact n
  unfold Gx
  rw [hid_out hA]
  exact ext_tup h
/-- what is told becomes an object of its own -/
theorem At.take (a : At b G0 H0 A C ps σ H) {q : Addr} {o : HO} (hq : Gx A G0 H0 H q = some o) (nt : NT o) (h0 : H0 q = none) (him : AllImm ps) : At b G0 H0 (q :: A) (upd C q o) ps σ H ∧ q ∉ A := by
  have hqA : q ∉ A := fun m => by rw [gx_out q m] at hq; cases hq
  refine ⟨⟨a.sub, fun c m => ?_, fun c u m e => a.same c u (fun z => m (List.mem_cons_of_mem _ z)) e, fun c m => ?_, a.sl.imm him fun c vs h => ?_⟩, hqA⟩
  · rcases List.mem_cons.mp m with rfl | m
    · cases e : G0 c with
      | none => rfl
      | some u => rw [a.sub _ _ e] at h0; cases h0
    · exact a.out c m
  · by_cases hc : c = q
    · subst hc
      exact ⟨o, upd_same, a.gsub _ _ hq, nt⟩
    · rcases List.mem_cons.mp m with z | m
      · exact absurd z hc
      · obtain ⟨u, h1, h2, h3⟩ := a.own c m
        exact ⟨u, by rw [upd_ne hc]; exact h1, h2, h3⟩
  · have hc : c ≠ q := fun z => by rw [z, hq] at h; cases h; exact nt
    have hcA : c ∉ A := fun m => by rw [gx_out c m] at h; cases h
    unfold Gx at h ⊢
    rw [hid_out hcA] at h
    rw [hid_out (fun m => (List.mem_cons.mp m).elim hc hcA)]
    exact h
theorem gx_take {q : Addr} {o : HO} (hq : Gx A G0 H0 H q = some o) : ∀ c u, c ≠ q → Gx A G0 H0 H c = some u → Gx (q :: A) G0 H0 H c = some u := fun c u hc h => by
  have hcA : c ∉ A := fun m => by rw [gx_out c m] at h; cases h
  unfold Gx at h ⊢
  rw [hid_out hcA] at h
  rw [hid_out (fun m => (List.mem_cons.mp m).elim hc hcA)]
  exact h
/-- for k in d (d.items()) while d is locked -/
theorem At.lockFor (a : At true G0 H0 A C ps σ H) {wi : TI} {g : TG} {tb : TS} {items : List D} {Dn : Ends} {d : Addr} {kvs : List (List Key × V)} (Φ : Nat → Hp → Ds → Prop)
    (h0d : H0 d = none) (hdA : d ∉ A) (hd : H d = some (.dT kvs)) (hps : AllImm ps) (hΦ : ∀ i C ps, Φ i C ps → AllImm ps)
    (hi : ∀ od (Rr : It → Hp → Prop) (G : Hp), G d = some (.frz od (.dT kvs)) → (∀ J, Walk false J G items → Rr J (upd H d (.frz od (.dT kvs)))) → wi σ (upd H d (.frz od (.dT kvs))) Rr) (h0 : Φ 0 C ps)
    (step : ∀ (od : Obj) (E : Ends) H1 i x σ' H' v C' ps', E.nx = Ivt false G0 H0 A Φ H1 (i + 1) → items[i]? = some x → Sub (upd (Gx A G0 H0 H) d (.frz od (.dT kvs))) (Gx A G0 H0 H') → SameX A H1 H' → At false G0 H0 A C' ps' σ' H' → Φ i C' ps' → R false (Gx A G0 H0 H') v x →
      g v σ' H' fun σ2 H2 => tb E σ2 H2)
    (fin : ∀ σ' H' C' ps', SameX A H H' → At true G0 H0 A C' ps' σ' H' → Φ items.length C' ps' → Dn.nx σ' H') : tLock (tFor wi g tb) Dn σ H := by
  refine ⟨d, .dT kvs, hd, trivial, fun od => ?_⟩
  have al : At false G0 H0 A C ps σ (upd H d (.frz od (.dT kvs))) := by
    refine ⟨a.sub, a.out, fun c u m e => ?_, fun c m => ?_, a.sl.imm hps fun c vs h => ?_⟩
    · rw [upd_ne (fun z => by rw [z, h0d] at e; cases e)]
      exact a.same c u m e
    · obtain ⟨u, h1, h2, h3⟩ := a.own c m
      exact ⟨u, h1, by rw [upd_ne (fun z => hdA (by rw [← z]; exact m))]; exact h2, h3⟩
    · have hc : c ≠ d := fun z => by
        rw [z, gx_at h0d hdA hd] at h; cases h
      unfold Gx at h ⊢
      unfold hid at h ⊢
      by_cases m : c ∈ A
      · rw [if_pos m] at h; cases h
      · rw [if_neg m] at h ⊢
        unfold ext at h ⊢
        rw [upd_ne hc]
        exact h
  have gl : Gx A G0 H0 (upd H d (.frz od (.dT kvs))) = upd (Gx A G0 H0 H) d (.frz od (.dT kvs)) := by
    funext c
    by_cases hc : c = d
    · subst hc
      rw [upd_same, gx_at h0d hdA upd_same]
    · rw [upd_ne hc]
      unfold Gx hid
      by_cases m : c ∈ A
      · rw [if_pos m, if_pos m]
      · rw [if_neg m, if_neg m]
        unfold ext
        rw [upd_ne hc]
  refine al.forW Φ (fun Rr q => hi od Rr (ext (Gx A G0 H0 (upd H d (.frz od (.dT kvs)))) (upd H d (.frz od (.dT kvs))) (upd H d (.frz od (.dT kvs)))) (ext_ge al.gsub (Same.refl _) _ _ (gx_at h0d hdA upd_same)) fun J walk => q J _ (Same.refl _) walk) h0 (fun H1 i x σ' H' v C' ps' e1 hx e2 a' hΦ' r => ?_) fun σ' H' C' ps' e a' hΦ' => ?_
  · refine step od _ H1 i x σ' H' v C' ps' rfl hx ?_ e2 a' hΦ' r
    rw [← gl]
    exact al.up (e1.trans e2) a'.own
  · have hfd : H' d = some (.frz od (.dT kvs)) := e d _ hdA upd_same
    refine ⟨hfd, ?_⟩
    have es : SameX A H (upd H' d (.dT kvs)) := fun c u m h => by
      by_cases hc : c = d
      · subst hc
        rw [hd] at h; cases h
        exact upd_same
      · rw [upd_ne hc]
        exact e c u m (by rw [upd_ne hc]; exact h)
    refine fin σ' _ C' ps' es ⟨a'.sub, a'.out, a.same.trans es, fun c m => ?_, a'.sl.imm (hΦ _ _ _ hΦ') fun c vs h => ?_⟩ hΦ'
    · obtain ⟨u, h1, h2, h3⟩ := a'.own c m
      exact ⟨u, h1, by rw [upd_ne (fun z => hdA (by rw [← z]; exact m))]; exact h2, h3⟩
    · have hc : c ≠ d := fun z => by
        rw [z, gx_at h0d hdA hfd] at h; cases h
      unfold Gx at h ⊢
      unfold hid at h ⊢
      by_cases m : c ∈ A
      · rw [if_pos m] at h; cases h
      · rw [if_neg m] at h ⊢
        unfold ext at h ⊢
        rw [upd_ne hc]
        exact h
/-- the body begins: all that the slots hold nothing changes -/
theorem At.start (l : SL b (tups H) σ ps) : At b (tups H) H [] C ps σ H := ⟨tups_sub H, (fun _ m => by cases m), SameX.refl H, Own.nil, l.same fun c u h => by
  unfold Gx
  rw [hid_out (by simp)]
  exact ext_ge (tups_sub H) (Same.refl H) _ _ h⟩
/-- .. or anything -/
theorem At.startP (l : SL b H σ ps) : At b H H [] C ps σ H := ⟨Same.refl H, (fun _ m => by cases m), SameX.refl H, Own.nil, l.same fun c u h => by
  unfold Gx
  rw [hid_out (by simp)]
  exact ext_ge (Same.refl H) (Same.refl H) _ _ h⟩
/-- what nothing changes is told wherever tuples are -/
theorem imm_of {v : V} {d : D} {b' : Bool} {G : Hp} (r : R b G v d) (i : Imm d) (h : ∀ a vs, G a = some (.tup vs) → H a = some (.tup vs)) : R b' (new H0 H) v d := r.imm (fun a vs e => ext_tup (h a vs e)) i
theorem At.immV (a : At b G0 H0 A C ps σ H) {v : V} {d : D} (r : R b (Gx A G0 H0 H) v d) (i : Imm d) : R true (new H0 H) v d := imm_of r i fun c vs e => a.gsub _ _ e
/-- the end of a body whose entry told tuples alone: what is told is new -/
theorem At.newV (a : At true (tups H0) H0 A C ps σ H) {v : V} {d : D} (r : R true (Gx A (tups H0) H0 H) v d) (n : ∀ p ∈ A, H0 p = none) : R true (new H0 H) v d := r.same fun c u h => by
  have h := hid_sub _ _ h
  rcases ext_cases h with ⟨⟨vs, rfl⟩, h⟩ | ⟨h1, h⟩ | ⟨_, h⟩
  · exact ext_tup h
  · exact ext_new h1 h
  · obtain ⟨vs, rfl⟩ := tups_is h
    by_cases m : c ∈ A
    · have := n c m
      have z := tups_sub _ _ _ h
      rw [this] at z; cases z
    · exact ext_tup (a.same _ _ m (tups_sub _ _ _ h))
theorem At.sameN (a : At b G0 H0 A C ps σ H) (n : ∀ p ∈ A, H0 p = none) : Same H0 H := fun c u e => a.same c u (fun m => by rw [n c m] at e; cases e) e
/-! ### lists of its own -/
/-- name = [] -/
theorem At.newL (a : At b G0 H0 A C ps σ H) {i : Nat} {Dn : Ends} (k : ∀ p, p ∉ A → H0 p = none → At b G0 H0 (p :: A) (upd C p (.lst [])) (ps.set i (some (.adr p))) (σ.set i (some (.ref p))) (upd H p (.lst [])) → Dn.nx (σ.set i (some (.ref p))) (upd H p (.lst []))) : tAsg (tLst tNil) (gName i) Dn σ H :=
  ⟨Nat.zero_le _, fun p hp => by
    obtain ⟨a', h1, h2⟩ := a.own_ (o := .lst []) hp trivial
    exact k p h1 h2 (a'.set i (.adr p))⟩
/-- xs.append(e) -/
theorem At.append (a : At b G0 H0 A C ps σ H) {K : PySem.W.Frag} {i : Nat} {p : Addr} {xs : List V} {te : TE} {d : D} {Dn : Ends} (hi : ps[i]? = some (some (.adr p))) (hp : p ∈ A) (hc : C p = some (.lst xs)) (hz : xs.length ≤ 100000) (h : EvX A C b ps te d C') (hc' : C' p = some (.lst xs))
    (k : ∀ v H', SameX A H H' → At b G0 H0 A (upd C' p (.lst (xs ++ [v]))) ps σ H' → R b (Gx A G0 H0 H') v d → Dn.nx σ H') : tDrop (tBM K "list" rAppend (tVar i) (tCons te tNil)) Dn σ H := by
  obtain ⟨v, ev, r⟩ := a.sl.2 i _ hi
  cases r.adr_
  have e1 : H p = some (.lst xs) := by rw [a.own.at hp]; exact hc
  refine ⟨.ref p, ev, .inl ⟨rfl, xs, SqL.of e1⟩, ?_⟩
  refine a.ev h fun v H1 e a1 r1 => ?_
  have e2 : H1 p = some (.lst xs) := by rw [a1.own.at hp]; exact hc'
  refine ⟨p, xs, v, rfl, rfl, e2, Nat.lt_of_le_of_lt hz (by decide), k v _ (e.trans fun c u m h => ?_) (a1.write hp trivial) (by rw [gx_write hp]; exact r1)⟩
  rw [upd_ne (fun z => m (by rw [z]; exact hp))]
  exact h
/-! ### dicts of its own -/
theorem At.newT (a : At b G0 H0 A C ps σ H) {i : Nat} {Dn : Ends} (k : ∀ p, p ∉ A → H0 p = none → At b G0 H0 (p :: A) (upd C p (.dT [])) (ps.set i (some (.adr p))) (σ.set i (some (.ref p))) (upd H p (.dT [])) → Dn.nx (σ.set i (some (.ref p))) (upd H p (.dT []))) : tAsg tDNewT (gName i) Dn σ H :=
  fun p hp => by
    obtain ⟨a', h1, h2⟩ := a.own_ (o := .dT []) hp trivial
    exact k p h1 h2 (a'.set i (.adr p))
theorem At.dput (a : At b G0 H0 A C ps σ H) {p : Addr} {kvs : List (List Key × V)} {td ty tv : TE} {d : D} {key : List Int} {Dn : Ends} (hp : p ∈ A) (hc : C p = some (.dT kvs)) (hz : kvs.length ≤ 1000000) (hv : EvP b ps tv d) (ht : EvP b ps td (.adr p)) (hy : EvP b ps ty (keyD key))
    (k : ∀ v H', SameX A H H' → At b G0 H0 A (upd C p (.dT (putK kvs (key.map Sum.inl) v))) ps σ H' → R b (Gx A G0 H0 H') v d → Dn.nx σ H') : sDPut td ty tv Dn σ H := by
  refine a.evP hv fun v H1 e1 a1 r1 => a1.evP ht fun x H2 e2 a2 r2 => a2.evP hy fun y H3 e3 a3 r3 => ?_
  cases r2.adr_
  obtain ⟨c, vs, rfl, ec, rl⟩ := R.tup_ r3
  rw [rl.ints, ← kV_ints] at ec
  have ep : H3 p = some (.dT kvs) := by rw [a3.own.at hp]; exact hc
  refine ⟨p, _, rfl, .inr ⟨kvs, key.map Sum.inl, c, ep, rfl, a3.gsub _ _ ec, Nat.lt_of_le_of_lt hz (by decide), rfl⟩, k v _ (((SameX.of e1).trans (.of e2)).trans ((SameX.of e3).trans fun c u m h => ?_)) (a3.write hp trivial) ?_⟩
  · rw [upd_ne (fun z => m (by rw [z]; exact hp))]
    exact h
  · rw [gx_write hp]
    exact r1.same ((a1.up (.of e2) a2.own).trans (a2.up (.of e3) a3.own))
/-- slots of an address get their data back, for one evaluation -/
theorem At.recall (a : At b G0 H0 A C ps σ H) {j : Nat} {q : Addr} {d : D} (hj : ps[j]? = some (some (.adr q))) (r : R b (Gx A G0 H0 H) (.ref q) d) : At b G0 H0 A C (ps.set j (some d)) σ H := by
  obtain ⟨v, ev, rv⟩ := a.sl.2 j _ hj
  cases rv.adr_
  have z := a.set j r
  rw [set_self ev] at z
  exact z
end
section
variable {A : List Addr} {C : Hp} {b : Bool} {ps : Ds} {td ty ta tb : TE} {p : Addr} {kvs : List (List Key × V)} {key : List Int}
/-- what an own dict holds under a key -/
theorem ownD_get {G H : Hp} {x y : V} (s : Sub G H) (w : Own A C H) (hp : p ∈ A) (hc : C p = some (.dT kvs)) (r : R b G x (.adr p)) (rk : R b G y (keyD key)) : x = .ref p ∧ DGet H p y (valV kvs (key.map Sum.inl)) := by
  cases r.adr_
  obtain ⟨c, vs, rfl, ec, rl⟩ := R.tup_ rk
  rw [rl.ints, ← kV_ints] at ec
  exact ⟨rfl, .inr ⟨kvs, key.map Sum.inl, c, .inl (by rw [w.at hp]; exact hc), rfl, s _ _ ec, rfl⟩⟩
theorem evx_dinO (hp : p ∈ A) (hc : C p = some (.dT kvs)) (hy : EvP b ps ty (keyD key)) (ht : EvP b ps td (.adr p)) : EvX A C b ps (tDIn ty td) (.bl (valV kvs (key.map Sum.inl)).isSome) C := fun σ H G s x w l Q q =>
  hy σ H G s l _ fun y H1 e1 r1 => ht σ H1 (ext G H H1) (ext_sub s e1) (l.same (ext_ge s e1)) _ fun z H2 e2 r2 => by
    obtain ⟨rfl, g⟩ := ownD_get (ext_sub (ext_sub s e1) e2) ((w.same e1).same e2) hp hc r2 (r1.same (ext_ge (ext_sub s e1) e2))
    exact ⟨p, _, rfl, g, q _ H2 (.of (e1.trans e2)) (w.same (e1.trans e2)) (.bl _)⟩
theorem evx_dnotinO (hp : p ∈ A) (hc : C p = some (.dT kvs)) (hy : EvP b ps ty (keyD key)) (ht : EvP b ps td (.adr p)) : EvX A C b ps (tDNotIn ty td) (.bl (!(valV kvs (key.map Sum.inl)).isSome)) C := fun σ H G s x w l Q q =>
  hy σ H G s l _ fun y H1 e1 r1 => ht σ H1 (ext G H H1) (ext_sub s e1) (l.same (ext_ge s e1)) _ fun z H2 e2 r2 => by
    obtain ⟨rfl, g⟩ := ownD_get (ext_sub (ext_sub s e1) e2) ((w.same e1).same e2) hp hc r2 (r1.same (ext_ge (ext_sub s e1) e2))
    exact ⟨p, _, rfl, g, q _ H2 (.of (e1.trans e2)) (w.same (e1.trans e2)) (.bl _)⟩
theorem evx_dgetO {i : Int} (hp : p ∈ A) (hc : C p = some (.dT kvs)) (ht : EvP b ps td (.adr p)) (hy : EvP b ps ty (keyD key)) (hv : valV kvs (key.map Sum.inl) = some (.int i)) : EvX A C b ps (tDGet td ty) (.int i) C := fun σ H G s x w l Q q =>
  ht σ H G s l _ fun z H1 e1 r1 => hy σ H1 (ext G H H1) (ext_sub s e1) (l.same (ext_ge s e1)) _ fun y H2 e2 r2 => by
    obtain ⟨rfl, g⟩ := ownD_get (ext_sub (ext_sub s e1) e2) ((w.same e1).same e2) hp hc (r1.same (ext_ge (ext_sub s e1) e2)) r2
    rw [hv] at g
    exact ⟨p, _, rfl, g, q _ H2 (.of (e1.trans e2)) (w.same (e1.trans e2)) (.int _)⟩
theorem etx_and {c k : Bool} {tt tu : TT} (h1 : EtX A C b ps tt c C) (h2 : c = true → EtX A C b ps tu k C) : EtX A C b ps (tAnd tt tu) (c && k) C := fun σ H G s x w l Q q => h1 σ H G s x w l _ fun H1 e1 w1 => by
  cases c with
  | true => exact h2 rfl σ H1 (ext G H H1) (extX_sub s x e1) (extX_out w w1 x) w1 (l.same (extX_ge s x e1)) Q fun H2 e2 w2 => q H2 (e1.trans e2) w2
  | false => exact q H1 e1 w1
theorem etx_or {c k : Bool} {tt tu : TT} (h1 : EtX A C b ps tt c C) (h2 : c = false → EtX A C b ps tu k C) : EtX A C b ps (tOr tt tu) (c || k) C := fun σ H G s x w l Q q => h1 σ H G s x w l _ fun H1 e1 w1 => by
  cases c with
  | true => exact q H1 e1 w1
  | false => exact h2 rfl σ H1 (ext G H H1) (extX_sub s x e1) (extX_out w w1 x) w1 (l.same (extX_ge s x e1)) Q fun H2 e2 w2 => q H2 (e1.trans e2) w2
theorem evx_lt {C1 C2 : Hp} {i j : Int} (ha : EvX A C b ps ta (.int i) C1) (hb : EvX A C1 b ps tb (.int j) C2) : EvX A C b ps (tOp (rI0 fun i j => .bl (decide (i < j))) ta tb) (.bl (decide (i < j))) C2 :=
  evx_two ha hb fun x y H G sub r1 r2 Q q => ⟨i, j, r1.int_, r2.int_, q _ H (Same.refl H) (.bl _)⟩
theorem evx_gt {C1 C2 : Hp} {i j : Int} (ha : EvX A C b ps ta (.int i) C1) (hb : EvX A C1 b ps tb (.int j) C2) : EvX A C b ps (tOp (rI0 fun i j => .bl (decide (j < i))) ta tb) (.bl (decide (j < i))) C2 :=
  evx_two ha hb fun x y H G sub r1 r2 Q q => ⟨i, j, r1.int_, r2.int_, q _ H (Same.refl H) (.bl _)⟩
theorem evx_lenO (hp : p ∈ A) (hc : C p = some (.dT kvs)) {t : TA} (h : EaP b ps t [.adr p]) : EvX A C b ps (tCB rLenT t) (.int (kvs.length : Nat)) C := fun σ H G s x w l Q q =>
  h σ H G s l _ fun vs H1 e1 r1 => by
    obtain ⟨v, rfl, r⟩ := r1.one_
    cases r.adr_
    exact ⟨p, kvs, rfl, by rw [(w.same e1).at hp]; exact hc, q _ H1 (.of e1) (w.same e1) (.int _)⟩
theorem At.et {G0 H0 : Hp} {σ : L2.St} {H C' : Hp} (a : At b G0 H0 A C ps σ H) {tt : TT} {c : Bool} {Q : Bool → Hp → Prop} (h : EtX A C b ps tt c C') (k : ∀ H', SameX A H H' → At b G0 H0 A C' ps σ H' → Q c H') : tt σ H Q :=
  h σ H _ a.gsub gx_out a.own a.sl Q fun H2 e w => k H2 e (a.mono e w)
end
end SP
set_option Elab.async false
set_option linter.all false
set_option maxRecDepth 100000
/-! Stillpanes, part 13: more of own lists; defs with own objects. -/
namespace SP
open PySem L2 PySem.Spec PyProof.Rows
section
variable {b : Bool} {G0 H0 : Hp} {A : List Addr} {C C' : Hp} {ps qs : Ds} {σ : L2.St} {H H' : Hp} {K : PySem.W.Frag}
theorem At.newLs (a : At b G0 H0 A C ps σ H) {i : Nat} {t : TA} {ds : List D} {Dn : Ends} (h : EaP b ps t ds) (hl : ds.length ≤ 100000)
    (k : ∀ p vs H1, Same H H1 → H1 p = none → p ∉ A → H0 p = none → At b G0 H0 (p :: A) (upd C p (.lst vs)) (ps.set i (some (.adr p))) (σ.set i (some (.ref p))) (upd H1 p (.lst vs)) → RL b (Gx A G0 H0 H1) vs ds → Dn.nx (σ.set i (some (.ref p))) (upd H1 p (.lst vs))) : tAsg (tLst t) (gName i) Dn σ H :=
  a.eaP h fun vs H1 e a1 r => ⟨sz_of (by rw [r.len]; exact hl), fun p hp => by
    obtain ⟨a', h1, h2⟩ := a1.own_ (o := .lst vs) hp trivial
    exact k p vs H1 e hp h1 h2 (a'.set i (.adr p)) r⟩
/-- the list at p is told apart: what was told stays -/
theorem gx_own {p : Addr} {o : HO} (s : Sub (Gx A G0 H0 H) H) (hp : H p = none) : Sub (Gx A G0 H0 H) (Gx (p :: A) G0 H0 (upd H p o)) := fun c u h => by
  have hcA : c ∉ A := fun m => by rw [gx_out c m] at h; cases h
  have hc : c ≠ p := fun z => by
    rw [z] at h
    rw [s _ _ h] at hp; cases hp
  unfold Gx at h ⊢
  rw [hid_out hcA] at h
  rw [hid_out (fun m => (List.mem_cons.mp m).elim hc hcA)]
  unfold ext at h ⊢
  rw [upd_ne hc]
  exact h
variable {p : Addr} {xs : List V} {ta tb td : TE} {t : TA} {i : Int}
theorem evx_ixO {n : Int} (hp : p ∈ A) (hc : C p = some (.lst xs)) (ha : EvP b ps ta (.adr p)) (hb : EvP b ps tb (.int i)) (h : atI xs i = some (.int n)) : EvX A C b ps (tOp (rIxL K) ta tb) (.int n) C := fun σ H G s x w l Q q =>
  ha σ H G s l _ fun z H1 e1 r1 => hb σ H1 (ext G H H1) (ext_sub s e1) (l.same (ext_ge s e1)) _ fun y H2 e2 r2 => by
    cases r1.adr_
    cases r2.int_
    exact ⟨p, xs, i, _, rfl, rfl, SqL.of (by rw [(w.same (e1.trans e2)).at hp]; exact hc), h, q _ H2 (.of (e1.trans e2)) (w.same (e1.trans e2)) (.int _)⟩
theorem evx_tupO {ds : List D} (hp : p ∈ A) (hc : C p = some (.lst xs)) (ha : EaP b ps t [.adr p]) (hx : ∀ G : Hp, RL b G xs ds) : EvX A C b ps (tCB (rTupQ K) t) (.tup ds) C := fun σ H G s x w l Q q =>
  ha σ H G s l _ fun vs H1 e1 r1 => by
    obtain ⟨v, rfl, r⟩ := r1.one_
    cases r.adr_
    have hH : H1 p = some (.lst xs) := by rw [(w.same e1).at hp]; exact hc
    refine ⟨p, xs, rfl, .inl ⟨SqL.of hH, fun l hl => q _ _ (.of (e1.trans (same_upd hl))) (w.same (e1.trans (same_upd hl))) ?_⟩⟩
    exact .tup (ext_tup upd_same) (hx _)
theorem evx_revO {ds : List D} (hp : p ∈ A) (hc : C p = some (.lst xs)) (ha : EvP b ps ta (.adr p)) (hx : ∀ G : Hp, RL b G xs ds) : EvX A C b ps (tRevL K ta) (.lst ds.reverse) C := fun σ H G s x w l Q q =>
  ha σ H G s l _ fun v H1 e1 r1 => by
    cases r1.adr_
    have hH : H1 p = some (.lst xs) := by rw [(w.same e1).at hp]; exact hc
    refine ⟨p, xs, rfl, SqL.of hH, fun l hl => q _ _ (.of (e1.trans (same_upd hl))) (w.same (e1.trans (same_upd hl))) ?_⟩
    exact .lst (ext_new (Same.free e1 hl) upd_same) (hx _).rev
theorem rl_ints {G : Hp} (ns : List Int) : RL b G (ns.map V.int) (ns.map D.int) := RL.of_ints ns
end
section
variable {P : Program} {w : World} {K : PySem.W.Frag} {mg : Str → Option Value} {base : Heap} {x qual : Str} {st : Stmt} {f : Addr} {fd : FuncData} {N ps : List Str} {k : Nat}
/-- a def of arguments that nothing changes, with objects of its own -/
theorem ok_own {F : List D → D → Prop} (Fn : Fun K x qual st f fd) (S : FnScope N ps (defScope st)) (hlen : ∀ ds d, F ds d → ds.length = ps.length ∧ ∀ x ∈ ds, Imm x)
    (body : ∀ (cdv : Value) (A : Around) (outer : List Env) (s : Shared) (H : Hp) (E : XK) (ds : List D) (d : D), Room k (A.deeper (envOfC qual (defScope st) s.heap.objs.size f cdv)) → F ds d →
      ∃ t, PSs (cxP P w K mg base N qual st f cdv A outer s H E) (defBody st) t ∧ ∀ (σ : L2.St) (Dn : Ends), At true (tups H) H [] (fun _ => none) (ps0 N ds) σ H → (∀ v H', Same H H' → R true (new H H') v d → Dn.rt v H') → t Dn σ H) : FnOk P w K mg base (L2.CX P w) (k + 1) f fd ps (SpR F) :=
  Fn.okX S (fun vs H Q E ⟨ds, d, r, hF, _⟩ => by rw [r.len]; exact (hlen ds d hF).1) fun cdv A outer s H vs Q E hr ⟨ds, d, r, hF, q⟩ => by
  obtain ⟨t, ht, hs⟩ := body cdv A outer s H E ds d hr hF
  exact ⟨t, ht, hs (start N vs) _ (At.start (SL.start (r.imm (fun a vs h => tups_at h) (hlen ds d hF).2))) q⟩
/-- a def of any arguments, with objects of its own -/
theorem ok_ownP {F : List D → D → Prop} (Fn : Fun K x qual st f fd) (S : FnScope N ps (defScope st)) (hlen : ∀ ds d, F ds d → ds.length = ps.length)
    (body : ∀ (cdv : Value) (A : Around) (outer : List Env) (s : Shared) (H : Hp) (E : XK) (ds : List D) (d : D), Room k (A.deeper (envOfC qual (defScope st) s.heap.objs.size f cdv)) → F ds d →
      ∃ t, PSs (cxP P w K mg base N qual st f cdv A outer s H E) (defBody st) t ∧ ∀ (σ : L2.St) (Dn : Ends), At false H H [] (fun _ => none) (ps0 N ds) σ H → (∀ v H', Same H H' → R true (new H H') v d → Dn.rt v H') → t Dn σ H) : FnOk P w K mg base (L2.CX P w) (k + 1) f fd ps (SpR F) :=
  Fn.okX S (fun vs H Q E ⟨ds, d, r, hF, _⟩ => by rw [r.len]; exact hlen ds d hF) fun cdv A outer s H vs Q E hr ⟨ds, d, r, hF, q⟩ => by
  obtain ⟨t, ht, hs⟩ := body cdv A outer s H E ds d hr hF
  exact ⟨t, ht, hs (start N vs) _ (At.startP (SL.start r)) q⟩
end
/-! ### shapes that == may compare -/
inductive Sh : Nat → D → Prop
  | non {n : Nat} : Sh n .non
  | bl {n : Nat} (c : Bool) : Sh n (.bl c)
  | int {n : Nat} (i : Int) : Sh n (.int i)
  | str {n : Nat} (x : Str) (h : PyData.canLay0 (.str x) = true) : Sh n (.str x)
  | tup {n : Nat} {ds : List D} (h : ∀ d ∈ ds, Sh n d) : Sh (n + 1) (.tup ds)
  | lst {n : Nat} {ds : List D} (h : ∀ d ∈ ds, Sh n d) : Sh (n + 1) (.lst ds)
theorem Sh.all {n : Nat} {ds : List D} (h : ∀ d ∈ ds, d.seq = true ∧ d.py.depth ≤ n ∧ d.py.canLay0 = true) : D.seqs ds = true ∧ PyData.depthAll (D.pys ds) ≤ n ∧ PyData.canLayAll0 (D.pys ds) = true := by
  induction ds with
  | nil => exact ⟨by rw [D.seqs], by rw [D.pys, PyData.depthAll]; exact Nat.zero_le _, by rw [D.pys, PyData.canLayAll0]⟩
  | cons d ds ih =>
    obtain ⟨h1, h2, h3⟩ := ih fun x hx => h x (List.mem_cons_of_mem _ hx)
    obtain ⟨g1, g2, g3⟩ := h d (List.mem_cons_self ..)
    refine ⟨by rw [D.seqs, g1, h1]; rfl, ?_, by rw [D.pys, PyData.canLayAll0, g3, h3]; rfl⟩
    rw [D.pys, PyData.depthAll]
    exact Nat.max_le.mpr ⟨g2, h2⟩
theorem Sh.ok {n : Nat} {d : D} (h : Sh n d) : d.seq = true ∧ d.py.depth ≤ n ∧ d.py.canLay0 = true := by
  induction h with
  | non => exact ⟨by rw [D.seq], by rw [D.py, PyData.depth]; exact Nat.zero_le _, by rw [D.py, PyData.canLay0]⟩
  | bl c => exact ⟨by rw [D.seq], by rw [D.py, PyData.depth]; exact Nat.zero_le _, by rw [D.py, PyData.canLay0]⟩
  | int c => exact ⟨by rw [D.seq], by rw [D.py, PyData.depth]; exact Nat.zero_le _, by rw [D.py, PyData.canLay0]⟩
  | str x h => exact ⟨by rw [D.seq], by rw [D.py, PyData.depth]; exact Nat.zero_le _, by rw [D.py]; exact h⟩
  | tup h ih =>
    obtain ⟨h1, h2, h3⟩ := Sh.all ih
    exact ⟨by rw [D.seq]; exact h1, by rw [D.py, PyData.depth]; omega, by rw [D.py, PyData.canLay0]; exact h3⟩
  | lst h ih =>
    obtain ⟨h1, h2, h3⟩ := Sh.all ih
    exact ⟨by rw [D.seq]; exact h1, by rw [D.py, PyData.depth]; omega, by rw [D.py, PyData.canLay0]; exact h3⟩
theorem Sh.shaped {n : Nat} {d : D} (h : Sh n d) (hn : n ≤ 64) : SeqAt.shaped d.py = true := by
  obtain ⟨_, h2, h3⟩ := h.ok
  unfold SeqAt.shaped
  rw [h3, decide_eq_true (Nat.le_trans h2 hn)]
  rfl
section
variable {b : Bool} {ps : Ds} {ta tb : TE} {d e : D} {ds : List D} {K : PySem.W.Frag} {n m : Nat}
theorem ev_eqS' (ha : EvP b ps ta d) (hb : EvP b ps tb e) (h1 : Sh n d) (h2 : Sh m e) (hn : n ≤ 64 := by decide) (hm : m ≤ 64 := by decide) : EvP b ps (tOp (rEqD K) ta tb) (.bl (PyData.eqv d.py e.py)) := ev_eqD ha hb h1.ok.1 h2.ok.1 (h1.shaped hn) (h2.shaped hm)
theorem ev_neS' (ha : EvP b ps ta d) (hb : EvP b ps tb e) (h1 : Sh n d) (h2 : Sh m e) (hn : n ≤ 64 := by decide) (hm : m ≤ 64 := by decide) : EvP b ps (tOp (rNeD K) ta tb) (.bl (!PyData.eqv d.py e.py)) := ev_neD ha hb h1.ok.1 h2.ok.1 (h1.shaped hn) (h2.shaped hm)
theorem eqv_nil (ds : List D) : PyData.eqv (D.lst ds).py (D.lst []).py = ds.isEmpty := by
  rw [D.py, D.py, D.pys, PyData.eqv]
  cases ds with
  | nil => rw [D.pys, PyData.eqvAll]; rfl
  | cons d ds => rw [D.pys, PyData.eqvAll]; rfl
/-- xs == [] -/
theorem ev_eqNil (ha : EvP b ps ta (.lst ds)) (h : ∀ d ∈ ds, Sh n d) (hn : n + 1 ≤ 64 := by decide) : EvP b ps (tOp (rEqD K) ta (tLst tNil)) (.bl ds.isEmpty) :=
  (ev_eqS' (m := 1) ha (ev_lst ea_nil (Nat.zero_le _)) (.lst h) (.lst fun _ z => nomatch z) hn).is (by rw [eqv_nil])
theorem ev_neNil (ha : EvP b ps ta (.lst ds)) (h : ∀ d ∈ ds, Sh n d) (hn : n + 1 ≤ 64 := by decide) : EvP b ps (tOp (rNeD K) ta (tLst tNil)) (.bl (!ds.isEmpty)) :=
  (ev_neS' (m := 1) ha (ev_lst ea_nil (Nat.zero_le _)) (.lst h) (.lst fun _ z => nomatch z) hn).is (by rw [eqv_nil])
theorem sh_key {n : Nat} (k : List Int) : Sh (n + 1) (keyD k) := .tup fun d hd => by
  obtain ⟨i, _, rfl⟩ := List.mem_map.mp hd
  exact .int i
end
theorem tseq_ {t u : TS} {Dn : Ends} {σ : L2.St} {H : Hp} (h : t { Dn with nx := u Dn } σ H) : tSeq t u Dn σ H := h
/-! ### what is walked of a locked dict; dicts of one value -/
theorem walk_keys {b : Bool} {G : Hp} {d : Addr} {o : Obj} {kvs : List (List Key × V)} {ks : List (List Int × D)} (ea : G d = some (.frz o (.dT kvs))) (rk : RK b G kvs ks) : Walk b (Itkt d o kvs) G (ks.map fun p => keyD p.1) := fun i H2 s2 => by
  have hl := rk.len
  refine ⟨fun hi => ?_, fun hi => ⟨s2 _ _ ea, by rw [List.length_map] at hi; omega⟩⟩
  rw [List.length_map] at hi
  refine ⟨⟨s2 _ _ ea, by omega⟩, fun x H' ⟨e1, k, v, p, ek, ex, ep⟩ => ?_⟩
  subst e1 ex
  obtain ⟨v', e2, _⟩ := rk.get (List.getElem?_eq_getElem hi)
  rw [ek] at e2
  cases e2
  exact ⟨Same.refl _, keyD ks[i].1, by rw [List.getElem?_map, List.getElem?_eq_getElem hi]; rfl, r_key (ext_tup ep)⟩
theorem walk_items {b : Bool} {G : Hp} {d : Addr} {o : Obj} {kvs : List (List Key × V)} {ks : List (List Int × D)} (ea : G d = some (.frz o (.dT kvs))) (rk : RK b G kvs ks) : Walk b (Itit d o kvs) G (ks.map fun p => .tup [keyD p.1, p.2]) := fun i H2 s2 => by
  have hl := rk.len
  refine ⟨fun hi => ?_, fun hi => ⟨s2 _ _ ea, by rw [List.length_map] at hi; omega⟩⟩
  rw [List.length_map] at hi
  refine ⟨⟨s2 _ _ ea, by omega⟩, fun x H' ⟨T, k, v, p, ek, ep, ex, hT, eH⟩ => ?_⟩
  subst ex eH
  obtain ⟨v', e2, r⟩ := rk.get (List.getElem?_eq_getElem hi)
  rw [ek] at e2
  cases e2
  have m : Same H2 (upd H2 T (.tup [.ref p, v])) := same_upd hT
  exact ⟨m, .tup [keyD ks[i].1, ks[i].2], by rw [List.getElem?_map, List.getElem?_eq_getElem hi]; rfl, .tup (ext_tup upd_same) (.cons (r_key (ext_tup (m _ _ ep))) (.cons (r.up s2 m) .nil))⟩
/-- entries whose values are scalars -/
def kvZ (ks : List (List Int × Int)) : List (List Key × V) := ks.map fun p => (p.1.map Sum.inl, .int p.2)
def kvB (ks : List (List Int)) : List (List Key × V) := ks.map fun p => (p.map Sum.inl, .bl true)
def dZ (ks : List (List Int × Int)) : List (List Int × D) := ks.map fun p => (p.1, .int p.2)
def dB (ks : List (List Int)) : List (List Int × D) := ks.map fun p => (p, .bl true)
section
variable {b : Bool} {G : Hp} {v : V}
theorem rk_B : ∀ ks : List (List Int), RK b G (kvB ks) (dB ks)
  | [] => .nil
  | k :: ks => .cons (.bl true) (rk_B ks)
theorem rk_Z : ∀ ks : List (List Int × Int), RK b G (kvZ ks) (dZ ks)
  | [] => .nil
  | k :: ks => .cons (.int k.2) (rk_Z ks)
theorem of_rkB : ∀ {ks : List (List Int)} {kvs : List (List Key × V)}, RK b G kvs (dB ks) → kvs = kvB ks
  | [], _, .nil => rfl
  | k :: ks, _, .cons r l => by
    rw [r.bl_, of_rkB (ks := ks) l]
    rfl
theorem of_rkZ : ∀ {ks : List (List Int × Int)} {kvs : List (List Key × V)}, RK b G kvs (dZ ks) → kvs = kvZ ks
  | [], _, .nil => rfl
  | k :: ks, _, .cons r l => by
    rw [r.int_, of_rkZ (ks := ks) l]
    rfl
theorem dctB_of {ks : List (List Int)} (r : R true G v (.dct (dB ks))) : ∃ a, v = .ref a ∧ G a = some (.dT (kvB ks)) := by
  obtain ⟨a, kvs, rfl, e, rk⟩ := r.dct_
  rw [of_rkB rk] at e
  rcases e with e | ⟨z, _⟩
  · exact ⟨a, rfl, e⟩
  · cases z
theorem dctZ_of {ks : List (List Int × Int)} (r : R true G v (.dct (dZ ks))) : ∃ a, v = .ref a ∧ G a = some (.dT (kvZ ks)) := by
  obtain ⟨a, kvs, rfl, e, rk⟩ := r.dct_
  rw [of_rkZ rk] at e
  rcases e with e | ⟨z, _⟩
  · exact ⟨a, rfl, e⟩
  · cases z
theorem dctB_to {ks : List (List Int)} {a : Addr} (e : G a = some (.dT (kvB ks))) : R b G (.ref a) (.dct (dB ks)) := .dct (.inl e) (rk_B ks)
theorem dctZ_to {ks : List (List Int × Int)} {a : Addr} (e : G a = some (.dT (kvZ ks))) : R b G (.ref a) (.dct (dZ ks)) := .dct (.inl e) (rk_Z ks)
theorem valB {ks : List (List Int)} {k : List Int} : (valV (kvB ks) (k.map Sum.inl)).isSome = decide (k ∈ ks) := by
  induction ks with
  | nil => rfl
  | cons c ks ih =>
    by_cases h : c = k
    · subst h
      rw [show kvB (c :: ks) = (c.map Sum.inl, V.bl true) :: kvB ks from rfl, valV_pos rfl]
      simp
    · rw [show kvB (c :: ks) = (c.map Sum.inl, V.bl true) :: kvB ks from rfl, valV_neg (fun z => h (inl_inj.mp z)), ih]
      have h' : ¬ k = c := fun z => h z.symm
      simp [h']
theorem valDB {ks : List (List Int)} {k : List Int} : (valD (dB ks) k).isSome = decide (k ∈ ks) := by
  induction ks with
  | nil => rfl
  | cons c ks ih =>
    unfold valD dB at ih ⊢
    by_cases h : c = k
    · subst h
      simp
    · have h' : ¬ k = c := fun z => h z.symm
      simp only [List.map_cons, List.find?_cons, h, decide_false]
      rw [ih]
      simp [h']
theorem putB {ks : List (List Int)} {k : List Int} (h : k ∉ ks) : putK (kvB ks) (k.map Sum.inl) (.bl true) = kvB (ks ++ [k]) := by
  unfold putK
  have e : ((kvB ks).any fun kv => decide (kv.1 = k.map Sum.inl)) = false := by
    rw [List.any_eq_false]
    intro p hp
    obtain ⟨c, hc, rfl⟩ := List.mem_map.mp hp
    have hck : c ≠ k := fun z => h (z ▸ hc)
    simp [inl_inj, hck]
  rw [e, if_neg (by decide)]
  unfold kvB
  rw [List.map_append]
  rfl
end
theorem gx_new {A : List Addr} {H0 H : Hp} {a : Addr} {o : HO} (h : Gx A (tups H0) H0 H a = some o) (nt : NT o) : H0 a = none := by
  rcases ext_cases (hid_sub _ _ h) with ⟨⟨vs, rfl⟩, _⟩ | ⟨h1, _⟩ | ⟨_, h⟩
  · exact nt.elim
  · exact h1
  · obtain ⟨vs, rfl⟩ := tups_is h
    exact nt.elim
theorem sameX_drop {p : Addr} {A : List Addr} {H H' : Hp} (e : SameX (p :: A) H H') (h : H p = none) : SameX A H H' := fun c u m hc => e c u (fun z => by
  rcases List.mem_cons.mp z with rfl | z
  · rw [h] at hc; cases hc
  · exact m z) hc
theorem sameX_more {p : Addr} {A : List Addr} {H H' : Hp} (e : SameX A H H') : SameX (p :: A) H H' := fun c u m hc => e c u (fun z => m (List.mem_cons_of_mem _ z)) hc
theorem allImm_nil : AllImm [] := fun i d h => by simp at h
theorem allImm_none {ps : Ds} (h : AllImm ps) : AllImm (none :: ps) := fun i d e => by
  cases i with
  | zero => simp at e
  | succ i => exact h i d (by simpa using e)
theorem allImm_some {ps : Ds} {d : D} (hd : Imm d) (h : AllImm ps) : AllImm (some d :: ps) := fun i e he => by
  cases i with
  | zero =>
    simp at he
    subst he
    exact hd
  | succ i => exact h i e (by simpa using he)
/-- {k: v} -/
theorem ev_dispT {b : Bool} {ps : Ds} {tk tv : TE} {k : List Int} {d : D} (hk : EvP b ps tk (keyD k)) (hv : EvP b ps tv d) : EvP b ps (tDispT tk tv) (.dct [(k, d)]) := fun σ H G s l Q q p hp => by
  have e0 : Same H (upd H p (.dT [])) := same_upd hp
  have s0 : Sub G (upd H p (.dT [])) := s.trans e0
  refine hk σ _ G s0 l _ fun x H1 e1 r1 => hv σ H1 (ext G (upd H p (.dT [])) H1) (ext_sub s0 e1) (l.same (ext_ge s0 e1)) _ fun y H2 e2 r2 => ?_
  obtain ⟨c, vs, rfl, ec, rl⟩ := R.tup_ r1
  rw [rl.ints, ← kV_ints] at ec
  have ep : H2 p = some (.dT []) := e2 _ _ (e1 _ _ upd_same)
  have ec2 : H2 c = some (.tup ((k.map Sum.inl).map kV)) := e2 _ _ (ext_sub s0 e1 _ _ ec)
  refine ⟨c, y, k.map Sum.inl, rfl, ec2, ep, ?_⟩
  have es : Same H (upd H2 p (.dT [(k.map Sum.inl, y)])) := fun a o h => by
    rw [upd_ne (fun z => by rw [z, hp] at h; cases h)]
    exact e2 _ _ (e1 _ _ (e0 _ _ h))
  refine q _ _ es (.dct (.inl (ext_new hp upd_same)) (.cons (r2.same fun a o h => ?_) .nil))
  have h := ext_ext s0 e1 e2 _ _ h
  have hap : a ≠ p ∨ ∃ vs, o = .tup vs := by
    by_cases z : a = p
    · subst z
      rcases ext_cases h with ⟨hv, _⟩ | ⟨h1, _⟩ | ⟨_, h⟩
      · exact .inr hv
      · rw [upd_same] at h1; cases h1
      · rw [s _ _ h] at hp; cases hp
    · exact .inl z
  rcases ext_cases h with ⟨⟨vs, rfl⟩, h⟩ | ⟨h1, h⟩ | ⟨_, h⟩
  · have hap : a ≠ p := fun z => by rw [z, ep] at h; cases h
    exact ext_tup (by rw [upd_ne hap]; exact h)
  · have hap : a ≠ p := fun z => by rw [z, upd_same] at h1; cases h1
    rw [upd_ne hap] at h1
    exact ext_new h1 (by rw [upd_ne hap]; exact h)
  · exact ext_ge s es _ _ h
/-! ### a list's item is locked; items set -/
theorem RL.repl {b : Bool} {G : Hp} {vs : List V} {ds : List D} {i : Nat} {v : V} {d : D} (r : RL b G vs ds) (hv : vs[i]? = some v) (hd : R b G v d) : RL b G vs (ds.set i d) := by
  have z := r.set i hd
  rw [set_self hv] at z
  exact z
theorem ev_lockI {ps : Ds} {te : TE} {j i : Nat} {ds : List D} {ks : List (List Int × D)} {ys : List D} (hj : ps[j]? = some (some (.lst ds))) (hi : ds[i]? = some (.dct ks)) (hI : ∀ y ∈ ys, Imm y) (h : EvP false (ps.set j (some (.lst (ds.set i (.lkd ks))))) te (.lst ys)) : EvP true ps (tLockE te) (.lst ys) := fun σ H G s l Q q => by
  obtain ⟨v, ev, r⟩ := l.2 j _ hj
  obtain ⟨a0, vs, rfl, ea0, rl⟩ := r.lst_
  obtain ⟨v1, ev1, r1⟩ := rl.get hi
  obtain ⟨a, kvs, rfl, ea, rk⟩ := r1.dct_
  rcases ea with ea | ⟨z, _⟩
  · refine lock_core s ea hI (fun od Q' q' => ?_) q
    have sl : SL false (upd G a (.frz od (.dT kvs))) σ (ps.set j (some (.lst (ds.set i (.lkd ks))))) := by
      have le := lockR (od := od) ea
      have hne : a0 ≠ a := fun z => by rw [z, ea] at ea0; cases ea0
      have rd : R false (upd G a (.frz od (.dT kvs))) (.ref a0) (.lst (ds.set i (.lkd ks))) := .lst (by rw [upd_ne hne]; exact ea0) ((rl.mono le).repl ev1 (R.lkd (b := false) (a := a) upd_same (rk.mono le)))
      have z := (l.mono le).set j rd
      rw [set_self ev] at z
      exact z
    refine h σ _ _ (fun c o hc => ?_) sl Q' q'
    by_cases e : c = a
    · subst e; rw [upd_same] at hc ⊢; exact hc
    · rw [upd_ne e] at hc ⊢; exact s _ _ hc
  · cases z
theorem putD_new {ks : List (List Int × D)} {k : List Int} {d : D} (h : k ∉ ks.map (·.1)) : putD ks k d = ks ++ [(k, d)] := by
  unfold putD
  rw [if_neg]
  intro z
  obtain ⟨p, hp, e⟩ := List.any_eq_true.mp z
  exact h (List.mem_map.mpr ⟨p, hp, by simpa using e⟩)
theorem mergeD_new : ∀ (ms ks : List (List Int × D)), (∀ k ∈ ms.map (·.1), k ∉ ks.map (·.1)) → (ms.map (·.1)).Nodup → mergeD ks ms = ks ++ ms
  | [], ks, _, _ => by simp [mergeD]
  | m :: ms, ks, h, hn => by
    rw [List.map_cons, List.nodup_cons] at hn
    have h1 : m.1 ∉ ks.map (·.1) := h m.1 (by simp)
    have e : mergeD ks (m :: ms) = mergeD (putD ks m.1 m.2) ms := rfl
    rw [e, putD_new h1, mergeD_new ms _ (fun k hk z => ?_) hn.2]
    · simp
    · rw [List.map_append] at z
      rcases List.mem_append.mp z with z | z
      · exact h k (by rw [List.map_cons]; exact List.mem_cons_of_mem _ hk) z
      · have : k = m.1 := by simpa using z
        exact hn.1 (this ▸ hk)
theorem mergeD_nodup {ms : List (List Int × D)} (hn : (ms.map (·.1)).Nodup) : mergeD [] ms = ms := by
  rw [mergeD_new ms [] (fun _ _ z => by simp at z) hn]
  rfl
theorem dB_keys (ks : List (List Int)) : (dB ks).map (·.1) = ks := by
  unfold dB
  rw [List.map_map]
  exact List.map_id ks
theorem dZ_keys (ks : List (List Int × Int)) : (dZ ks).map (·.1) = ks.map (·.1) := by
  unfold dZ
  rw [List.map_map]
  rfl
theorem At.setL {b : Bool} {G0 H0 : Hp} {A : List Addr} {C : Hp} {ps : Ds} {σ : L2.St} {H : Hp} (a : At b G0 H0 A C ps σ H) {p : Addr} {xs : List V} {to ti : TE} {k : Int} {j : Nat} {v : V} {Q : L2.St → Hp → Prop} (hp : p ∈ A) (hc : C p = some (.lst xs)) (ho : EvP b ps to (.adr p)) (hi : EvP b ps ti (.int k)) (hk : ixN xs.length k = some j)
    (q : ∀ H', SameX A H H' → At b G0 H0 A (upd C p (.lst (xs.set j v))) ps σ H' → Q σ H') : gSub to ti rSetL v σ H Q := by
  refine a.evP ho fun x H1 e1 a1 r1 => a1.evP hi fun y H2 e2 a2 r2 => ?_
  cases r1.adr_
  cases r2.int_
  refine ⟨p, xs, k, j, rfl, rfl, by rw [a2.own.at hp]; exact hc, hk, q _ (((SameX.of e1).trans (.of e2)).trans fun c u m h => ?_) (a2.write hp trivial)⟩
  rw [upd_ne (fun z => m (by rw [z]; exact hp))]
  exact h
theorem gname_ {i : Nat} {v : V} {σ : L2.St} {H : Hp} {Q : L2.St → Hp → Prop} (h : Q (σ.set i (some v)) H) : gName i v σ H Q := h
end SP
set_option Elab.async false
set_option linter.all false
set_option maxRecDepth 100000
/-! Stillpanes, part 14: loops by the turn that may leave. -/
namespace SP
open PySem L2
theorem first_bad (bad : Nat → Bool) : ∀ n, (∃ i, i < n ∧ bad i = true ∧ ∀ j, j < i → bad j = false) ∨ ∀ i, i < n → bad i = false
  | 0 => .inr fun i h => absurd h (Nat.not_lt_zero _)
  | n + 1 => by
    rcases first_bad bad n with ⟨i, h1, h2, h3⟩ | h
    · exact .inl ⟨i, by omega, h2, h3⟩
    · cases e : bad n with
      | true => exact .inl ⟨n, by omega, e, h⟩
      | false =>
        refine .inr fun i hi => ?_
        by_cases q : i = n
        · rw [q]; exact e
        · exact h i (by omega)
section
variable {W : L2.St → Hp → Prop} {b : Bool} {ps : Ds} {wi : TI} {g : TG} {ts tu : TS} {vs : List Nat} {o : Oc}
/-- the slots stand as pss i ahead of turn i; a bad turn i leaves with r i -/
theorem sd_ix {items : List D} (pss : Nat → Ds) (bad : Nat → Bool) (r : Nat → Oc) (fv : List Nat) (hi : IvP b ps wi items) (h0 : pss 0 = ps)
    (step : ∀ i d, items[i]? = some d → (∀ j, j < i → bad j = false) → ∃ qs rs, GdP b (pss i) g d qs vs ∧ wipeP rs fv = pss (i + 1) ∧ SdP W b qs ts (if bad i = true then r i else .nx rs)) (hr : ∀ i rs, r i ≠ .nx rs)
    (h1 : ∀ i, i < items.length → bad i = true → (∀ j, j < i → bad j = false) → o = r i) (h2 : (∀ i, i < items.length → bad i = false) → o = .nx (pss items.length)) : SdP W b ps (tFor wi g ts) o := by
  have go : ∀ i d, items[i]? = some d → (∀ j, j < i → bad j = false) → bad i = false → ∃ qs, GdP b (pss i) g d qs vs ∧ SdP W b qs ts (.nx (pss (i + 1))) := fun i d hd hj hb => by
    obtain ⟨qs, rs, g1, g2, g3⟩ := step i d hd hj
    rw [hb, if_neg (by decide)] at g3
    exact ⟨qs, g1, sd_fgt fv g3 g2⟩
  rcases first_bad bad items.length with ⟨n, hn, hb, hj⟩ | hall
  · refine sd_for (vs := vs) pss n hi h0 (fun i d hin hd => go i d hd (fun j h => hj j (by omega)) (hj i hin)) (.inr ⟨hn, fun d hd => ?_⟩)
    obtain ⟨qs, rs, g1, g2, g3⟩ := step n d hd hj
    rw [hb, if_pos rfl] at g3
    have e := h1 n hn hb hj
    rw [e]
    exact ⟨qs, g1, g3, hr n⟩
  · exact sd_for (vs := vs) pss items.length hi h0 (fun i d hin hd => go i d hd (fun j h => hall j (by omega)) (hall i hin)) (.inl ⟨rfl, h2 hall⟩)
theorem sd_ixS {items : List D} (pss : Nat → Ds) (bad : Nat → Bool) (r : Nat → Oc) (fv : List Nat) (hi : IvP b ps wi items) (h0 : pss 0 = ps)
    (step : ∀ i d, items[i]? = some d → (∀ j, j < i → bad j = false) → ∃ qs rs, GdP b (pss i) g d qs vs ∧ wipeP rs fv = pss (i + 1) ∧ SdP W b qs ts (if bad i = true then r i else .nx rs)) (hr : ∀ i rs, r i ≠ .nx rs)
    (h1 : ∀ i, i < items.length → bad i = true → (∀ j, j < i → bad j = false) → o = r i) (h2 : (∀ i, i < items.length → bad i = false) → SdP W b (pss items.length) tu o) : SdP W b ps (tSeq (tFor wi g ts) tu) o := by
  rcases first_bad bad items.length with ⟨n, hn, hb, hj⟩ | hall
  · have e := h1 n hn hb hj
    have loop := sd_ix (W := W) (o := o) pss bad r fv hi h0 step hr h1 (fun h => by rw [h n hn] at hb; cases hb)
    cases o with
    | nx rs => exact absurd e.symm (hr n rs)
    | rt d => exact sd_seqR loop
    | ex => exact sd_seqX loop
  · exact sd_seq (sd_ix (W := W) pss bad r fv hi h0 step hr (fun i hi hb _ => by rw [hall i hi] at hb; cases hb) fun _ => rfl) (h2 hall)
theorem sd_ifThen {tt : TT} {c : Bool} (h : EtP b ps tt c) (h1 : c = true → SdP W b ps ts o ∧ ∀ rs, o ≠ .nx rs) (h2 : c = false → SdP W b ps tu o) : SdP W b ps (tSeq (tIfS tt ts tNext) tu) o := by
  cases c with
  | true =>
    obtain ⟨g1, g2⟩ := h1 rfl
    have z : SdP W b ps (tIfS tt ts tNext) o := sd_if h (fun _ => g1) (fun z => nomatch z)
    cases o with
    | nx rs => exact absurd rfl (g2 rs)
    | rt d => exact sd_seqR z
    | ex => exact sd_seqX z
  | false => exact sd_seq (sd_if h (fun z => nomatch z) (fun _ => sd_next)) (h2 rfl)
theorem sd_ex (h : ∀ Dn σ H, W σ H → ts Dn σ H) : SdP W b ps ts .ex := fun σ H G s l Dn q => h Dn σ H (q σ H (Same.refl H))
end
theorem pe_never {X : Cx} {e : Expr} : PE X e (fun _ _ _ => False) := ⟨fun _ _ _ _ _ _ h => h.elim⟩
/-! ### nested data -/
def D.atom : D → Bool
  | .non => true | .bl _ => true | .int _ => true | .str _ => true | _ => false
inductive Nst : Nat → D → Prop
  | atom {n : Nat} {d : D} (h : d.atom = true) : Nst n d
  | tup {n : Nat} {ds : List D} (h : ∀ d ∈ ds, Nst n d) (hl : ds.length ≤ 10000) : Nst (n + 1) (.tup ds)
  | lst {n : Nat} {ds : List D} (h : ∀ d ∈ ds, Nst n d) (hl : ds.length ≤ 10000) : Nst (n + 1) (.lst ds)
mutual
/-- lists made tuples; tuples made lists -/
def D.tupd : D → D
  | .tup ds => .tup (D.tupds ds) | .lst ds => .tup (D.tupds ds)
  | .non => .non | .bl c => .bl c | .int i => .int i | .str x => .str x | .dct k => .dct k | .adr a => .adr a | .lkd k => .lkd k | .cls n => .cls n
def D.tupds : List D → List D
  | [] => []
  | d :: ds => d.tupd :: D.tupds ds
end
mutual
def D.lstd : D → D
  | .tup ds => .lst (D.lstds ds) | .lst ds => .lst (D.lstds ds)
  | .non => .non | .bl c => .bl c | .int i => .int i | .str x => .str x | .dct k => .dct k | .adr a => .adr a | .lkd k => .lkd k | .cls n => .cls n
def D.lstds : List D → List D
  | [] => []
  | d :: ds => d.lstd :: D.lstds ds
end
theorem tupds_map : ∀ ds : List D, D.tupds ds = ds.map D.tupd
  | [] => by rw [D.tupds]; rfl
  | d :: ds => by rw [D.tupds, tupds_map ds]; rfl
theorem lstds_map : ∀ ds : List D, D.lstds ds = ds.map D.lstd
  | [] => by rw [D.lstds]; rfl
  | d :: ds => by rw [D.lstds, lstds_map ds]; rfl
theorem atom_tupd {d : D} (h : d.atom = true) : d.tupd = d := by
  cases d <;> first | (rw [D.tupd]; done) | (cases h; done)
theorem atom_lstd {d : D} (h : d.atom = true) : d.lstd = d := by
  cases d <;> first | (rw [D.lstd]; done) | (cases h; done)
theorem atom_imm {d : D} (h : d.atom = true) : Imm d := by
  cases d with
  | non => exact .non
  | bl c => exact .bl c
  | int i => exact .int i
  | str x => exact .str x
  | _ => cases h
theorem Nst.imm {n : Nat} {d : D} (h : Nst n d) : Imm d.tupd := by
  induction h with
  | atom h => rw [atom_tupd h]; exact atom_imm h
  | tup h _ ih =>
    rw [D.tupd, tupds_map]
    exact .tup fun d hd => by
      obtain ⟨x, hx, rfl⟩ := List.mem_map.mp hd
      exact ih x hx
  | lst h _ ih =>
    rw [D.tupd, tupds_map]
    exact .tup fun d hd => by
      obtain ⟨x, hx, rfl⟩ := List.mem_map.mp hd
      exact ih x hx
theorem Nst.up {n m : Nat} {d : D} (h : Nst n d) (hm : n ≤ m) : Nst m d := by
  induction h generalizing m with
  | atom h => exact .atom h
  | tup h hl ih =>
    obtain ⟨k, rfl⟩ : ∃ k, m = k + 1 := ⟨m - 1, by omega⟩
    exact .tup (fun d hd => ih d hd (by omega)) hl
  | lst h hl ih =>
    obtain ⟨k, rfl⟩ : ∃ k, m = k + 1 := ⟨m - 1, by omega⟩
    exact .lst (fun d hd => ih d hd (by omega)) hl
end SP
set_option Elab.async false
set_option linter.all false
set_option maxRecDepth 100000
/-! Stillpanes, part 15: defs of nested arguments, read strictly. -/
namespace SP
open PySem L2 PySem.Spec PyProof.Rows
theorem RL.each {b b' : Bool} {H : Hp} {ds : List D} (h : ∀ d ∈ ds, ∀ v, R b H v d → R b' H v d) : ∀ {vs : List V}, RL b H vs ds → RL b' H vs ds := by
  induction ds with
  | nil => intro vs r; cases r; exact .nil
  | cons d ds ih =>
    intro vs r
    cases r with
    | cons r l => exact .cons (h d (List.mem_cons_self ..) _ r) (ih (fun d' hd => h d' (List.mem_cons_of_mem _ hd)) l)
theorem Nst.strict {n : Nat} {H : Hp} {d : D} (h : Nst n d) : ∀ v, R false H v d → R true H v d := by
  induction h with
  | atom h => exact fun v r => r.imm (fun a vs e => e) (atom_imm h)
  | tup h _ ih =>
    intro v r
    obtain ⟨a, vs, rfl, e, l⟩ := r.tup_
    exact .tup e (RL.each ih l)
  | lst h _ ih =>
    intro v r
    obtain ⟨a, vs, rfl, e, l⟩ := r.lst_
    exact .lst e (RL.each ih l)
section
variable {P : Program} {w : World} {K : PySem.W.Frag} {mg : Str → Option Value} {base : Heap} {x qual : Str} {st : Stmt} {f : Addr} {fd : FuncData} {N ps : List Str} {k : Nat}
/-- a def of nested arguments that answers with what nothing changes, or raises C -/
theorem ok_nstE {C : Addr} {F : List D → Option D → Prop} (Fn : Fun K x qual st f fd) (S : FnScope N ps (defScope st)) (hlen : ∀ ds o, F ds o → ds.length = ps.length ∧ (∀ d ∈ ds, ∃ n, Nst n d) ∧ ∀ d, o = some d → Imm d)
    (body : ∀ (cdv : Value) (A : Around) (outer : List Env) (s : Shared) (H : Hp) (E : XK) (ds : List D) (o : Option D), Room k (A.deeper (envOfC qual (defScope st) s.heap.objs.size f cdv)) → F ds o →
      ∃ t, PSs (cxP P w K mg base N qual st f cdv A outer s H E) (defBody st) t ∧ SdP (fun _ H' => E (.ref C) none H') true (ps0 N ds) t (match o with | some d => .rt d | none => .ex)) : FnOk P w K mg base (L2.CX P w) (k + 1) f fd ps (SpE C F) :=
  Fn.okX S (fun vs H Q E ⟨ds, d, r, hF, _⟩ => by rw [r.len]; exact (hlen ds d hF).1) fun cdv A outer s H vs Q E hr ⟨ds, o, r, hF, q1, q2⟩ => by
  obtain ⟨t, ht, hs⟩ := body cdv A outer s H E ds o hr hF
  have r' : RL true H vs ds := RL.each (fun d hd v r => let ⟨n, h⟩ := (hlen ds o hF).2.1 d hd; h.strict v r) r
  refine ⟨t, ht, ?_⟩
  cases o with
  | some d =>
    refine hs (start N vs) H H (Same.refl H) (SL.start r') _ fun v H2 e2 r2 => q1 d rfl v H2 e2 (r2.imm (fun a vs h => ?_) ((hlen ds _ hF).2.2 d rfl))
    rcases ext_cases h with ⟨_, h⟩ | ⟨_, h⟩ | ⟨_, h⟩
    · exact ext_tup h
    · exact ext_tup h
    · exact ext_tup (e2 _ _ h)
  | none => exact hs (start N vs) H H (Same.refl H) (SL.start r') _ fun σ' H2 e2 => q2 rfl H2 e2
theorem ok_nst {F : List D → D → Prop} (Fn : Fun K x qual st f fd) (S : FnScope N ps (defScope st)) (hlen : ∀ ds d, F ds d → ds.length = ps.length ∧ (∀ d ∈ ds, ∃ n, Nst n d) ∧ Imm d)
    (body : ∀ (cdv : Value) (A : Around) (outer : List Env) (s : Shared) (H : Hp) (E : XK) (ds : List D) (d : D), Room k (A.deeper (envOfC qual (defScope st) s.heap.objs.size f cdv)) → F ds d →
      ∃ t, PSs (cxP P w K mg base N qual st f cdv A outer s H E) (defBody st) t ∧ SdP (fun _ _ => False) true (ps0 N ds) t (.rt d)) : FnOk P w K mg base (L2.CX P w) (k + 1) f fd ps (SpR F) :=
  Fn.okX S (fun vs H Q E ⟨ds, d, r, hF, _⟩ => by rw [r.len]; exact (hlen ds d hF).1) fun cdv A outer s H vs Q E hr ⟨ds, d, r, hF, q⟩ => by
  obtain ⟨t, ht, hs⟩ := body cdv A outer s H E ds d hr hF
  have r' : RL true H vs ds := RL.each (fun d' hd v r => let ⟨n, h⟩ := (hlen ds d hF).2.1 d' hd; h.strict v r) r
  refine ⟨t, ht, hs (start N vs) H H (Same.refl H) (SL.start r') _ fun v H2 e2 r2 => q v H2 e2 (r2.imm (fun a vs h => ?_) (hlen ds d hF).2.2)⟩
  rcases ext_cases h with ⟨_, h⟩ | ⟨_, h⟩ | ⟨_, h⟩
  · exact ext_tup h
  · exact ext_tup h
  · exact ext_tup (e2 _ _ h)
/-- .. with objects of its own -/
theorem ok_nstO {F : List D → D → Prop} (Fn : Fun K x qual st f fd) (S : FnScope N ps (defScope st)) (hlen : ∀ ds d, F ds d → ds.length = ps.length ∧ (∀ d ∈ ds, ∃ n, Nst n d) ∧ Imm d)
    (body : ∀ (cdv : Value) (A : Around) (outer : List Env) (s : Shared) (H : Hp) (E : XK) (ds : List D) (d : D), Room k (A.deeper (envOfC qual (defScope st) s.heap.objs.size f cdv)) → F ds d →
      ∃ t, PSs (cxP P w K mg base N qual st f cdv A outer s H E) (defBody st) t ∧ ∀ (σ : L2.St) (Dn : Ends), At true H H [] (fun _ => none) (ps0 N ds) σ H → (∀ v H', Same H H' → R true (new H H') v d → Dn.rt v H') → t Dn σ H) : FnOk P w K mg base (L2.CX P w) (k + 1) f fd ps (SpR F) :=
  Fn.okX S (fun vs H Q E ⟨ds, d, r, hF, _⟩ => by rw [r.len]; exact (hlen ds d hF).1) fun cdv A outer s H vs Q E hr ⟨ds, d, r, hF, q⟩ => by
  obtain ⟨t, ht, hs⟩ := body cdv A outer s H E ds d hr hF
  have r' : RL true H vs ds := RL.each (fun d' hd v r => let ⟨n, h⟩ := (hlen ds d hF).2.1 d' hd; h.strict v r) r
  exact ⟨t, ht, hs (start N vs) _ (At.startP (SL.start r')) q⟩
theorem ok_nstEO {C : Addr} {F : List D → Option D → Prop} (Fn : Fun K x qual st f fd) (S : FnScope N ps (defScope st)) (hlen : ∀ ds o, F ds o → ds.length = ps.length ∧ (∀ d ∈ ds, ∃ n, Nst n d) ∧ ∀ d, o = some d → Imm d)
    (body : ∀ (cdv : Value) (A : Around) (outer : List Env) (s : Shared) (H : Hp) (E : XK) (ds : List D) (o : Option D), Room k (A.deeper (envOfC qual (defScope st) s.heap.objs.size f cdv)) → F ds o →
      ∃ t, PSs (cxP P w K mg base N qual st f cdv A outer s H E) (defBody st) t ∧ ∀ (σ : L2.St) (Dn : Ends), At true H H [] (fun _ => none) (ps0 N ds) σ H → (∀ d, o = some d → ∀ v H', Same H H' → R true (new H H') v d → Dn.rt v H') → (o = none → ∀ H', Same H H' → E (.ref C) none H') → t Dn σ H) : FnOk P w K mg base (L2.CX P w) (k + 1) f fd ps (SpE C F) :=
  Fn.okX S (fun vs H Q E ⟨ds, d, r, hF, _⟩ => by rw [r.len]; exact (hlen ds d hF).1) fun cdv A outer s H vs Q E hr ⟨ds, o, r, hF, q1, q2⟩ => by
  obtain ⟨t, ht, hs⟩ := body cdv A outer s H E ds o hr hF
  have r' : RL true H vs ds := RL.each (fun d hd v r => let ⟨n, h⟩ := (hlen ds o hF).2.1 d hd; h.strict v r) r
  exact ⟨t, ht, hs (start N vs) _ (At.startP (SL.start r')) q1 q2⟩
end
/-- x = max(x, f(..)) where f raises -/
theorem sd_max2X {W : L2.St → Hp → Prop} {b : Bool} {ps : Ds} {C : Addr} {F : List D → Option D → Prop} {E : L2.St → XK} {t : TA} {ds : List D} {i j : Nat} {n : Int} (hv : ps[j]? = some (some (.int n))) (h : EaP b ps t ds) (hF : F ds none) (hW : ∀ σ H, W σ H → E σ (.ref C) none H) :
    SdP W b ps (tAsg (tCB rMax2Q (tCons (tVar j) (tCons (tCallS (SpE C F) E t) tNil))) (gName i)) .ex := fun σ H G s l Dn q => by
  obtain ⟨v, ev, _⟩ := l.2 j _ hv
  exact ⟨v, ev, h σ H G s l _ fun vs H1 e1 r1 => ⟨ds, none, (r1.same (ext_sub s e1)).wk, hF, (fun d z => nomatch z), fun _ H2 e2 => hW σ H2 (q σ H2 (e1.trans e2))⟩⟩
theorem sd_par3 {W : L2.St → Hp → Prop} {b : Bool} {ps : Ds} {ta : TA} {i j k : Nat} {d e f : D} (h : EaP b ps ta [d, e, f]) : SdP W b ps (tPar3 i j k ta) (.nx (((ps.set i (some d)).set j (some e)).set k (some f))) := fun σ H G s l Dn q => h σ H G s l _ fun vs H1 e1 r1 => by
  obtain ⟨v, w, u, rfl, rv, rw', ru⟩ := r1.three_
  exact ⟨v, w, u, rfl, q _ H1 e1 ((((l.same (ext_ge s e1)).set i rv).set j rw').set k ru)⟩
end SP
set_option Elab.async false
set_option linter.all false
set_option maxRecDepth 100000
/-! Stillpanes, part 16: bodies whose arguments hold no dict; update; list(range(n)). -/
namespace SP
open PySem L2 PySem.Spec PyProof.Rows
/-- the tuples and lists of a heap -/
def noD (H : Hp) : Hp := fun a => match H a with
  | some (.tup vs) => some (.tup vs)
  | some (.lst vs) => some (.lst vs)
  | _ => none
theorem noD_tup {H : Hp} {a : Addr} {vs : List V} (h : H a = some (.tup vs)) : noD H a = some (.tup vs) := by
  unfold noD; rw [h]
theorem noD_lst {H : Hp} {a : Addr} {vs : List V} (h : H a = some (.lst vs)) : noD H a = some (.lst vs) := by
  unfold noD; rw [h]
theorem noD_sub (H : Hp) : Sub (noD H) H := fun a o h => by
  unfold noD at h
  split at h
  · rename_i vs e
    rw [e]; exact h
  · rename_i vs e
    rw [e]; exact h
  · cases h
theorem noD_is {H : Hp} {a : Addr} {o : HO} (h : noD H a = some o) : (∃ vs, o = .tup vs) ∨ ∃ vs, o = .lst vs := by
  unfold noD at h
  split at h
  · cases h; exact .inl ⟨_, rfl⟩
  · cases h; exact .inr ⟨_, rfl⟩
  · cases h
theorem RL.each' {b b' : Bool} {G G' : Hp} : ∀ {ds : List D} {vs : List V}, (∀ d ∈ ds, ∀ v, R b G v d → R b' G' v d) → RL b G vs ds → RL b' G' vs ds
  | _, _, _, .nil => .nil
  | d :: ds, _, h, .cons r l => .cons (h d (List.mem_cons_self ..) _ r) (RL.each' (fun x hx => h x (List.mem_cons_of_mem _ hx)) l)
theorem Nst.low {n : Nat} {b : Bool} {H : Hp} {d : D} (h : Nst n d) : ∀ v, R b H v d → R true (noD H) v d := by
  induction h with
  | atom h => exact fun v r => r.imm (fun a vs e => noD_tup e) (atom_imm h)
  | tup h _ ih =>
    intro v r
    obtain ⟨a, vs, rfl, e, l⟩ := r.tup_
    exact .tup (noD_tup e) (RL.each' ih l)
  | lst h _ ih =>
    intro v r
    obtain ⟨a, vs, rfl, e, l⟩ := r.lst_
    exact .lst (noD_lst e) (RL.each' ih l)
theorem gx_newD {A : List Addr} {H0 H : Hp} {a : Addr} {kvs : List (List Key × V)} (h : Gx A (noD H0) H0 H a = some (.dT kvs)) : H0 a = none := by
  rcases ext_cases (hid_sub _ _ h) with ⟨⟨vs, e⟩, _⟩ | ⟨h1, _⟩ | ⟨_, h⟩
  · cases e
  · exact h1
  · rcases noD_is h with ⟨vs, e⟩ | ⟨vs, e⟩ <;> cases e
theorem At.startD {b : Bool} {H C : Hp} {σ : L2.St} {ps : Ds} (l : SL b (noD H) σ ps) : At b (noD H) H [] C ps σ H := ⟨noD_sub H, (fun _ m => by cases m), SameX.refl H, Own.nil, l.same fun c u h => by
  unfold Gx
  rw [hid_out (by simp)]
  exact ext_ge (noD_sub H) (Same.refl H) _ _ h⟩
section
variable {P : Program} {w : World} {K : PySem.W.Frag} {mg : Str → Option Value} {base : Heap} {x qual : Str} {st : Stmt} {f : Addr} {fd : FuncData} {N ps : List Str} {k : Nat}
theorem ok_low {F : List D → D → Prop} (Fn : Fun K x qual st f fd) (S : FnScope N ps (defScope st)) (hlen : ∀ ds d, F ds d → ds.length = ps.length ∧ (∀ d ∈ ds, ∃ n, Nst n d))
    (body : ∀ (cdv : Value) (A : Around) (outer : List Env) (s : Shared) (H : Hp) (E : XK) (ds : List D) (d : D), Room k (A.deeper (envOfC qual (defScope st) s.heap.objs.size f cdv)) → F ds d →
      ∃ t, PSs (cxP P w K mg base N qual st f cdv A outer s H E) (defBody st) t ∧ ∀ (σ : L2.St) (Dn : Ends), At true (noD H) H [] (fun _ => none) (ps0 N ds) σ H → (∀ v H', Same H H' → R true (new H H') v d → Dn.rt v H') → t Dn σ H) : FnOk P w K mg base (L2.CX P w) (k + 1) f fd ps (SpR F) :=
  Fn.okX S (fun vs H Q E ⟨ds, d, r, hF, _⟩ => by rw [r.len]; exact (hlen ds d hF).1) fun cdv A outer s H vs Q E hr ⟨ds, d, r, hF, q⟩ => by
  obtain ⟨t, ht, hs⟩ := body cdv A outer s H E ds d hr hF
  have r' : RL true (noD H) vs ds := RL.each' (fun d' hd v r => let ⟨n, h⟩ := (hlen ds d hF).2 d' hd; h.low v r) r
  exact ⟨t, ht, hs (start N vs) _ (At.startD (SL.start r')) q⟩
theorem ok_lowE {C : Addr} {F : List D → Option D → Prop} (Fn : Fun K x qual st f fd) (S : FnScope N ps (defScope st)) (hlen : ∀ ds o, F ds o → ds.length = ps.length ∧ (∀ d ∈ ds, ∃ n, Nst n d))
    (body : ∀ (cdv : Value) (A : Around) (outer : List Env) (s : Shared) (H : Hp) (E : XK) (ds : List D) (o : Option D), Room k (A.deeper (envOfC qual (defScope st) s.heap.objs.size f cdv)) → F ds o →
      ∃ t, PSs (cxP P w K mg base N qual st f cdv A outer s H E) (defBody st) t ∧ ∀ (σ : L2.St) (Dn : Ends), At true (noD H) H [] (fun _ => none) (ps0 N ds) σ H → (∀ d, o = some d → ∀ v H', Same H H' → R true (new H H') v d → Dn.rt v H') → (o = none → ∀ H', Same H H' → E (.ref C) none H') → t Dn σ H) : FnOk P w K mg base (L2.CX P w) (k + 1) f fd ps (SpE C F) :=
  Fn.okX S (fun vs H Q E ⟨ds, d, r, hF, _⟩ => by rw [r.len]; exact (hlen ds d hF).1) fun cdv A outer s H vs Q E hr ⟨ds, o, r, hF, q1, q2⟩ => by
  obtain ⟨t, ht, hs⟩ := body cdv A outer s H E ds o hr hF
  have r' : RL true (noD H) vs ds := RL.each' (fun d hd v r => let ⟨n, h⟩ := (hlen ds o hF).2 d hd; h.low v r) r
  exact ⟨t, ht, hs (start N vs) _ (At.startD (SL.start r')) q1 q2⟩
end
/-- keys put one by one -/
def mergeB (later keys : List (List Int)) : List (List Int) := keys.foldl (fun l k => if k ∈ l then l else l ++ [k]) later
theorem putB_in {ks : List (List Int)} {k : List Int} (h : k ∈ ks) : putK (kvB ks) (k.map Sum.inl) (.bl true) = kvB ks := by
  unfold putK
  have e : ((kvB ks).any fun kv => decide (kv.1 = k.map Sum.inl)) = true := by
    rw [List.any_eq_true]
    exact ⟨(k.map Sum.inl, .bl true), List.mem_map.mpr ⟨k, h, rfl⟩, by simp⟩
  rw [e, if_pos rfl]
  have : ∀ p ∈ kvB ks, (if p.1 = k.map Sum.inl then (p.1, V.bl true) else p) = p := fun p hp => by
    obtain ⟨c, _, rfl⟩ := List.mem_map.mp hp
    split <;> rfl
  exact (List.map_congr_left this).trans (List.map_id _)
theorem merge_B : ∀ (keys later : List (List Int)), mergeT (kvB later) (kvB keys) = kvB (mergeB later keys)
  | [], later => rfl
  | k :: keys, later => by
    have e : mergeT (kvB later) (kvB (k :: keys)) = mergeT (putK (kvB later) (k.map Sum.inl) (.bl true)) (kvB keys) := rfl
    have e2 : mergeB later (k :: keys) = mergeB (if k ∈ later then later else later ++ [k]) keys := rfl
    rw [e, e2]
    by_cases h : k ∈ later
    · rw [putB_in h, if_pos h, merge_B keys later]
    · rw [putB h, if_neg h, merge_B keys _]
theorem mergeB_len (keys : List (List Int)) : ∀ later, (mergeB later keys).length ≤ later.length + keys.length := by
  induction keys with
  | nil => intro later; exact Nat.le_refl _
  | cons k keys ih =>
    intro later
    have := ih (if k ∈ later then later else later ++ [k])
    show (mergeB (if k ∈ later then later else later ++ [k]) keys).length ≤ _
    rw [List.length_cons]
    split at this
    · rename_i h; rw [if_pos h]; omega
    · rename_i h; rw [if_neg h]; rw [List.length_append] at this; simp at this; omega
theorem mem_mergeB (keys : List (List Int)) : ∀ later x, x ∈ mergeB later keys ↔ x ∈ later ∨ x ∈ keys := by
  induction keys with
  | nil => intro later x; show x ∈ later ↔ _; simp
  | cons k keys ih =>
    intro later x
    show x ∈ mergeB (if k ∈ later then later else later ++ [k]) keys ↔ _
    rw [ih]
    by_cases h : k ∈ later
    · rw [if_pos h, List.mem_cons]
      constructor
      · rintro (h | h)
        · exact .inl h
        · exact .inr (.inr h)
      · rintro (h | h | h)
        · exact .inl h
        · rw [h]; exact .inl ‹_›
        · exact .inr h
    · rw [if_neg h, List.mem_append, List.mem_singleton, List.mem_cons, or_assoc]
theorem mergeB_nodup (keys : List (List Int)) : ∀ later, later.Nodup → (mergeB later keys).Nodup := by
  induction keys with
  | nil => intro later h; exact h
  | cons k keys ih =>
    intro later h
    show (mergeB (if k ∈ later then later else later ++ [k]) keys).Nodup
    refine ih _ ?_
    split
    · exact h
    · rename_i hn
      exact List.nodup_append.mpr ⟨h, by simp, fun a ha b hb' => by
        rw [List.mem_singleton.mp hb']
        exact fun z => hn (z ▸ ha)⟩
section
variable {b : Bool} {G0 H0 : Hp} {A : List Addr} {C C' : Hp} {ps qs : Ds} {σ : L2.St} {H H' : Hp} {K : PySem.W.Frag}
theorem At.update (a : At b G0 H0 A C ps σ H) {i : Nat} {p : Addr} {later keys : List (List Int)} {te : TE} {Dn : Ends} (hi : ps[i]? = some (some (.adr p))) (hp : p ∈ A) (hc : C p = some (.dT (kvB later))) (hz : later.length ≤ 1000000) (hk : keys.length ≤ 1000000) (h : EvP b ps te (.lst ((dB keys).map pairD)))
    (k : ∀ H', SameX A H H' → At b G0 H0 A (upd C p (.dT (kvB (mergeB later keys)))) ps σ H' → Dn.nx σ H') : tDrop (tBM K "dict" rUpdT (tVar i) (tCons te tNil)) Dn σ H := by
  obtain ⟨v, ev, r⟩ := a.sl.2 i _ hi
  cases r.adr_
  have e1 : H p = some (.dT (kvB later)) := by rw [a.own.at hp]; exact hc
  refine ⟨.ref p, ev, .inr (.inr (.inl ⟨rfl, .inr ⟨_, e1⟩⟩)), ?_⟩
  refine a.evP h fun v H1 e a1 r1 => ?_
  obtain ⟨q, its, rfl, eq, rl⟩ := R.lst_ r1
  obtain ⟨kvs, hpt, rk⟩ := pairs_of a1.gsub rl
  have ek := of_rkB rk
  subst ek
  refine ⟨p, q, its, kvB later, kvB keys, rfl, rfl, e _ _ e1, a1.gsub _ _ eq, hpt, ?_, ?_⟩
  · unfold kvB
    rw [List.length_map, List.length_map]
    exact Nat.le_trans (Nat.add_le_add hz hk) (by decide)
  · rw [merge_B]
    refine k _ ((SameX.of e).trans fun c u m h => ?_) (a1.write hp trivial)
    rw [upd_ne (fun z => m (by rw [z]; exact hp))]
    exact h
/-- list(range(n)) -/
theorem ev_listRg {te : TE} {n : Nat} (h : EvP b ps te (.int (n : Nat))) (hn : n ≤ 1000000) : EvP b ps (tLstRg (tRg1 te)) (.lst ((List.range n).map fun i => .int (i : Nat))) := fun σ H G s l Q q => h σ H G s l _ fun v H1 e1 r1 => by
  refine ⟨(n : Int), r1.int_, RgOk.of_le (by omega) (by omega) (by omega) (by omega), fun p hp => q _ _ (e1.trans (same_upd hp)) (.lst (ext_new (Same.free e1 hp) upd_same) ?_)⟩
  have e : rgV 0 (n : Int) = ((List.range n).map fun i => ((i : Nat) : Int)).map V.int := by
    unfold rgV
    rw [List.map_map]
    have e2 : ((n : Int) - 0).toNat = n := by omega
    rw [e2]
    apply List.map_congr_left
    intro i _
    show V.int (0 + (i : Nat)) = V.int (i : Nat)
    rw [Int.zero_add]
  rw [e]
  have e3 : ((List.range n).map fun i => D.int (i : Nat)) = ((List.range n).map fun i => ((i : Nat) : Int)).map D.int := by
    rw [List.map_map]; rfl
  rw [e3]
  exact rl_ints _
end
end SP
set_option Elab.async false
set_option linter.all false
set_option maxRecDepth 100000
/-! Stillpanes, part 17: an answer and a new list at once. -/
namespace SP
open PySem L2 PySem.Spec PyProof.Rows
section
variable {b : Bool} {G0 H0 : Hp} {A : List Addr} {C C' : Hp} {ps qs : Ds} {σ : L2.St} {H H' : Hp} {K : PySem.W.Frag}
theorem At.pairL (a : At b G0 H0 A C ps σ H) {te : TE} {d : D} {Q : List V → Hp → Prop} (h : EvP b ps te d)
    (k : ∀ v q H2, Same H H2 → q ∉ A → H0 q = none → At b G0 H0 (q :: A) (upd C q (.lst [])) ps σ H2 → R b (Gx (q :: A) G0 H0 H2) v d → Q [v, .ref q] H2) : (tCons te (tCons (tLst tNil) tNil)) σ H Q :=
  a.evP h fun v H1 e1 a1 r1 => ⟨Nat.zero_le _, fun q hq => by
    obtain ⟨a', h1, h2⟩ := a1.own_ (o := .lst []) hq trivial
    refine k v q _ (e1.trans (same_upd hq)) h1 h2 a' (r1.same (gx_own a1.gsub hq))⟩
theorem At.parL (a : At b G0 H0 A C ps σ H) {te : TE} {d : D} {i j : Nat} {Dn : Ends} (h : EvP b ps te d)
    (k : ∀ v q H2, Same H H2 → q ∉ A → H0 q = none → At b G0 H0 (q :: A) (upd C q (.lst [])) ps σ H2 → R b (Gx (q :: A) G0 H0 H2) v d → Dn.nx ((σ.set i (some v)).set j (some (.ref q))) H2) : tPar i j (tCons te (tCons (tLst tNil) tNil)) Dn σ H :=
  a.pairL h fun v q H2 e h1 h2 a2 r2 => ⟨v, .ref q, rfl, k v q H2 e h1 h2 a2 r2⟩
theorem At.tupL (a : At b G0 H0 A C ps σ H) {te : TE} {d : D} {i j : Nat} {Dn : Ends} (h : EvP b ps te d)
    (k : ∀ v q H2, Same H H2 → q ∉ A → H0 q = none → At b G0 H0 (q :: A) (upd C q (.lst [])) ps σ H2 → R b (Gx (q :: A) G0 H0 H2) v d → Dn.nx ((σ.set i (some v)).set j (some (.ref q))) H2) : tAsg (tTup (tCons te (tCons (tLst tNil) tNil))) (gTup K 2 (gCons (gName i) (gCons (gName j) gNil))) Dn σ H := by
  unfold tAsg tTup
  refine a.pairL h fun v q H2 e h1 h2 a2 r2 => ⟨by show 2 ≤ sizeLine; decide, fun p hp => ⟨p, [v, .ref q], rfl, SqT.of upd_same, rfl, v, [.ref q], rfl, .ref q, [], rfl, rfl, by
    have e2 : Same H2 (upd H2 p (.tup [v, .ref q])) := same_upd hp
    exact k v q _ (e.trans e2) h1 h2 (a2.same' e2) (r2.same (a2.up (.of e2) (a2.own.same e2)))⟩⟩
end
/-- what is walked of enumerate(a drawing) -/
theorem enum_nat {dr : List Nat} {i : Nat} {d : D} (h : (dr.zipIdx.map fun p => D.tup [.int (p.2 : Nat), D.int ((p.1 : Nat) : Int)])[i]? = some d) : ∃ p, dr[i]? = some p ∧ d = .tup [.int (i : Nat), .int ((p : Nat) : Int)] := by
  rw [List.getElem?_map] at h
  obtain ⟨⟨pn, i'⟩, hz, rfl⟩ := Option.map_eq_some_iff.mp h
  rw [List.getElem?_zipIdx] at hz
  obtain ⟨pn', hpn, hz⟩ := Option.map_eq_some_iff.mp hz
  cases hz
  exact ⟨pn, hpn, by simp⟩
end SP
set_option Elab.async false
set_option linter.all false
set_option maxRecDepth 100000
/-! Stillpanes, part 18: defs that change the list of their first argument. -/
namespace SP
open PySem L2 PySem.Spec PyProof.Rows
abbrev urnO (st : List Int) : HO := .lst (st.map V.int)
/-- told the list st at its first argument, and ds, it answers d and leaves st' there -/
def SpU (F : List Int → List D → List Int → D → Prop) : Sp := fun vs H Q _ => ∃ (u : Addr) (vr : List V) (st : List Int) (ds : List D) (st' : List Int) (d : D), vs = .ref u :: vr ∧ H u = some (urnO st) ∧ RL false (hid [u] H) vr ds ∧ F st ds st' d ∧
  ∀ v H', SameX [u] H H' → H' u = some (urnO st') → R true (new H H') v d → Q v H'
theorem evx_callU {A : List Addr} {C : Hp} {b : Bool} {ps : Ds} {t : TA} {u : Addr} {st st' : List Int} {ds : List D} {d : D} {F : List Int → List D → List Int → D → Prop} {E : L2.St → XK} (hu : u ∈ A) (hc : C u = some (urnO st)) (h : EaP b ps t (.adr u :: ds)) (hF : F st ds st' d) :
    EvX A C b ps (tCallS (SpU F) E t) d (upd C u (urnO st')) := fun σ H G s x w l Q q => h σ H G s l _ fun vs H1 e1 r1 => by
  cases r1 with
  | cons r0 rr =>
    cases r0.adr_
    have w1 := w.same e1
    have x1 : Out A (ext G H H1) := extX_out w w1 x
    have s1 := ext_sub s e1
    refine ⟨u, _, st, ds, st', d, rfl, by rw [w1.at hu]; exact hc, (rr.same fun c o hc => (?_ : hid [u] H1 c = some o)).wk, hF, fun v H2 e2 hu2 r2 => q v H2 (fun c o m h => ?_) (fun c m => ?_) (r2.wk.same fun c o h => ?_)⟩
    · have hcu : c ≠ u := fun z => by rw [z, x1 u hu] at hc; cases hc
      rw [hid_out (fun m => hcu (List.mem_singleton.mp m))]
      exact s1 _ _ hc
    · exact e2 _ _ (fun z => m (by rw [List.mem_singleton.mp z]; exact hu)) (e1 _ _ h)
    · by_cases hcu : c = u
      · subst hcu
        exact ⟨_, upd_same, hu2, trivial⟩
      · obtain ⟨o, h1, h2, h3⟩ := w1 c m
        exact ⟨o, by rw [upd_ne hcu]; exact h1, e2 _ _ (fun z => hcu (List.mem_singleton.mp z)) h2, h3⟩
    · rcases ext_cases h with ⟨⟨vs, rfl⟩, h⟩ | ⟨h1, h⟩ | ⟨_, h⟩
      · exact ext_tup h
      · exact ext_new (Same.free e1 h1) h
      · cases h
section
variable {b : Bool} {G0 H0 : Hp} {A : List Addr} {C C' : Hp} {ps qs : Ds} {σ : L2.St} {H H' : Hp} {K : PySem.W.Frag}
/-- an expression that reads the own list in slot j -/
theorem At.evO (a : At b G0 H0 A C ps σ H) {j : Nat} {u : Addr} {xs : List V} {ds : List D} {te : TE} {d : D} {Q : VK} (hj : ps[j]? = some (some (.adr u))) (hu : u ∈ A) (hc : C u = some (.lst xs)) (hx : ∀ G : Hp, RL b G xs ds) (h : EvP b (ps.set j (some (.lst ds))) te d) (hi : Imm d)
    (k : ∀ v H', Same H H' → At b G0 H0 A C ps σ H' → R b (Gx A G0 H0 H') v d → Q v H') : te σ H Q := by
  obtain ⟨v, ev, r⟩ := a.sl.2 j _ hj
  cases r.adr_
  have hH : H u = some (.lst xs) := by rw [a.own.at hu]; exact hc
  have hsub : Sub (fun c => if c = u then some (.lst xs) else Gx A G0 H0 H c) H := fun c o h => by
    by_cases e : c = u
    · subst e
      have h : (if c = c then some (HO.lst xs) else Gx A G0 H0 H c) = some o := h
      rw [if_pos rfl] at h
      rw [hH]; exact h
    · have h : (if c = u then some (HO.lst xs) else Gx A G0 H0 H c) = some o := h
      rw [if_neg e] at h
      exact a.gsub _ _ h
  have hup : Sub (Gx A G0 H0 H) (fun c => if c = u then some (.lst xs) else Gx A G0 H0 H c) := fun c o h => by
    have e : c ≠ u := fun z => by rw [z, gx_out u hu] at h; cases h
    show (if c = u then _ else _) = _
    rw [if_neg e]; exact h
  have sl : SL b (fun c => if c = u then some (.lst xs) else Gx A G0 H0 H c) σ (ps.set j (some (.lst ds))) := by
    have z := (a.sl.same hup).set j (v := .ref u) (d := .lst ds) (.lst (by show (if u = u then _ else _) = _; rw [if_pos rfl]) (hx _))
    rw [set_self ev] at z
    exact z
  refine h σ H _ hsub sl Q fun v H2 e2 r2 => ?_
  have a2 := a.same' e2
  refine k v H2 e2 a2 (r2.imm (fun c vs hc => ?_) hi)
  exact gx_of_tup a2.own (ext_sub hsub e2 _ _ hc)
theorem At.etO (a : At b G0 H0 A C ps σ H) {j : Nat} {u : Addr} {xs : List V} {ds : List D} {tt : TT} {c : Bool} {Q : Bool → Hp → Prop} (hj : ps[j]? = some (some (.adr u))) (hu : u ∈ A) (hc : C u = some (.lst xs)) (hx : ∀ G : Hp, RL b G xs ds) (h : EtP b (ps.set j (some (.lst ds))) tt c)
    (k : ∀ H', Same H H' → At b G0 H0 A C ps σ H' → Q c H') : tt σ H Q := by
  obtain ⟨v, ev, r⟩ := a.sl.2 j _ hj
  cases r.adr_
  have hH : H u = some (.lst xs) := by rw [a.own.at hu]; exact hc
  have hsub : Sub (fun c => if c = u then some (.lst xs) else Gx A G0 H0 H c) H := fun c o h => by
    by_cases e : c = u
    · subst e
      have h : (if c = c then some (HO.lst xs) else Gx A G0 H0 H c) = some o := h
      rw [if_pos rfl] at h
      rw [hH]; exact h
    · have h : (if c = u then some (HO.lst xs) else Gx A G0 H0 H c) = some o := h
      rw [if_neg e] at h
      exact a.gsub _ _ h
  have hup : Sub (Gx A G0 H0 H) (fun c => if c = u then some (.lst xs) else Gx A G0 H0 H c) := fun c o h => by
    have e : c ≠ u := fun z => by rw [z, gx_out u hu] at h; cases h
    show (if c = u then _ else _) = _
    rw [if_neg e]; exact h
  have sl : SL b (fun c => if c = u then some (.lst xs) else Gx A G0 H0 H c) σ (ps.set j (some (.lst ds))) := by
    have z := (a.sl.same hup).set j (v := .ref u) (d := .lst ds) (.lst (by show (if u = u then _ else _) = _; rw [if_pos rfl]) (hx _))
    rw [set_self ev] at z
    exact z
  exact h σ H _ hsub sl Q fun H2 e2 => k H2 e2 (a.same' e2)
/-- the end of a def whose entry told tuples alone and whose own list stood there before -/
theorem At.newU {u : Addr} (a : At true (tups H0) H0 [u] C ps σ H) {v : V} {d : D} (r : R true (Gx [u] (tups H0) H0 H) v d) : R true (new H0 H) v d := r.same fun c o h => by
  have hA : c ∉ [u] := fun m => by rw [gx_out c m] at h; cases h
  have h := hid_sub _ _ h
  rcases ext_cases h with ⟨⟨vs, rfl⟩, h⟩ | ⟨h1, h⟩ | ⟨_, h⟩
  · exact ext_tup h
  · exact ext_new h1 h
  · obtain ⟨vs, rfl⟩ := tups_is h
    exact ext_tup (a.same _ _ hA (tups_sub _ _ _ h))
/-- an own list's item is set by what reads the list -/
theorem At.setO (a : At b G0 H0 A C ps σ H) {j i : Nat} {u : Addr} {st : List Int} {te ti : TE} {n k : Int} {Dn : Ends} (hj : ps[j]? = some (some (.adr u))) (hu : u ∈ A) (hc : C u = some (urnO st)) (h : EvP b (ps.set j (some (.lst (st.map .int)))) te (.int n)) (hti : EvP b ps ti (.int k)) (hi : ixN st.length k = some i)
    (q : ∀ H', SameX A H H' → At b G0 H0 A (upd C u (urnO (st.set i n))) ps σ H' → Dn.nx σ H') : tAsg te (gSub (tVar j) ti rSetL) Dn σ H :=
  a.evO hj hu hc (fun G => rl_ints st) h (.int n) fun v H1 e1 a1 r1 => by
    cases r1.int_
    refine a1.setL hu hc (ev_var hj) hti (by rw [List.length_map]; exact hi) fun H2 e2 a2 => q H2 ((SameX.of e1).trans e2) ?_
    have e : (st.map V.int).set i (V.int n) = (st.set i n).map V.int := List.map_set.symm
    rw [e] at a2
    exact a2
end
section
variable {P : Program} {w : World} {K : PySem.W.Frag} {mg : Str → Option Value} {base : Heap} {x qual : Str} {st : Stmt} {f : Addr} {fd : FuncData} {N ps : List Str} {k : Nat}
theorem ok_U {F : List Int → List D → List Int → D → Prop} (Fn : Fun K x qual st f fd) (S : FnScope N ps (defScope st)) (hlen : ∀ us ds us' d, F us ds us' d → ds.length + 1 = ps.length ∧ ∀ x ∈ ds, Imm x)
    (body : ∀ (cdv : Value) (A : Around) (outer : List Env) (s : Shared) (H : Hp) (E : XK) (us : List Int) (ds : List D) (us' : List Int) (d : D), Room k (A.deeper (envOfC qual (defScope st) s.heap.objs.size f cdv)) → F us ds us' d →
      ∃ t, PSs (cxP P w K mg base N qual st f cdv A outer s H E) (defBody st) t ∧ ∀ (σ : L2.St) (Dn : Ends) (u : Addr), At true (tups H) H [u] (upd (fun _ => none) u (urnO us)) (ps0 N (.adr u :: ds)) σ H → (∀ v H', SameX [u] H H' → H' u = some (urnO us') → R true (new H H') v d → Dn.rt v H') → t Dn σ H) : FnOk P w K mg base (L2.CX P w) (k + 1) f fd ps (SpU F) :=
  Fn.okX S (fun vs H Q E ⟨u, vr, us, ds, us', d, e, _, r, hF, _⟩ => by rw [e, List.length_cons, r.len]; exact (hlen us ds us' d hF).1) fun cdv A outer s H vs Q E hr ⟨u, vr, us, ds, us', d, e, hu, r, hF, q⟩ => by
  subst e
  obtain ⟨t, ht, hs⟩ := body cdv A outer s H E us ds us' d hr hF
  have r' : RL true (tups H) vr ds := r.imm (fun a vs h => tups_at (hid_sub _ _ h)) (hlen us ds us' d hF).2
  refine ⟨t, ht, hs (start N _) _ u ⟨tups_sub H, fun c m => ?_, SameX.refl H, fun c m => ?_, (SL.start (.cons (.adr u) r')).same fun c o h => ?_⟩ q⟩
  · rw [List.mem_singleton.mp m]
    cases e : tups H u with
    | none => rfl
    | some o =>
      obtain ⟨vs, rfl⟩ := tups_is e
      have := tups_sub _ _ _ e
      rw [hu] at this; cases this
  · rw [List.mem_singleton.mp m]
    exact ⟨_, upd_same, hu, trivial⟩
  · obtain ⟨vs, rfl⟩ := tups_is h
    have h2 := tups_sub _ _ _ h
    have hc : c ∉ [u] := fun m => by rw [List.mem_singleton.mp m, hu] at h2; cases h2
    unfold Gx
    rw [hid_out hc]
    exact ext_tup h2
/-- .. of any arguments; its answer is what nothing changes -/
theorem ok_UP {F : List Int → List D → List Int → D → Prop} (Fn : Fun K x qual st f fd) (S : FnScope N ps (defScope st)) (hlen : ∀ us ds us' d, F us ds us' d → ds.length + 1 = ps.length)
    (body : ∀ (cdv : Value) (A : Around) (outer : List Env) (s : Shared) (H : Hp) (E : XK) (us : List Int) (ds : List D) (us' : List Int) (d : D), Room k (A.deeper (envOfC qual (defScope st) s.heap.objs.size f cdv)) → F us ds us' d →
      ∃ t, PSs (cxP P w K mg base N qual st f cdv A outer s H E) (defBody st) t ∧ ∀ (σ : L2.St) (Dn : Ends) (u : Addr), At false (hid [u] H) H [u] (upd (fun _ => none) u (urnO us)) (ps0 N (.adr u :: ds)) σ H → (∀ v H', SameX [u] H H' → H' u = some (urnO us') → R true (new H H') v d → Dn.rt v H') → t Dn σ H) : FnOk P w K mg base (L2.CX P w) (k + 1) f fd ps (SpU F) :=
  Fn.okX S (fun vs H Q E ⟨u, vr, us, ds, us', d, e, _, r, hF, _⟩ => by rw [e, List.length_cons, r.len]; exact (hlen us ds us' d hF)) fun cdv A outer s H vs Q E hr ⟨u, vr, us, ds, us', d, e, hu, r, hF, q⟩ => by
  subst e
  obtain ⟨t, ht, hs⟩ := body cdv A outer s H E us ds us' d hr hF
  refine ⟨t, ht, hs (start N _) _ u ⟨fun c o h => hid_sub c o h, fun c m => hid_in m, SameX.refl H, fun c m => ?_, (SL.start (.cons (.adr u) r)).same fun c o h => ?_⟩ q⟩
  · rw [List.mem_singleton.mp m]
    exact ⟨_, upd_same, hu, trivial⟩
  · have hc : c ∉ [u] := fun m => by rw [hid_in m] at h; cases h
    unfold Gx
    rw [hid_out hc]
    exact ext_ge (fun c o h => hid_sub c o h) (Same.refl H) _ _ h
end
end SP
set_option Elab.async false
set_option linter.all false
set_option maxRecDepth 100000
/-! Stillpanes, part 19: a list of new lists; append to a list of a list. -/
namespace SP
open PySem L2 PySem.Spec PyProof.Rows
/-- x at each of rs -/
def ups (C : Hp) (rs : List Addr) (o : HO) : Hp := fun c => if c ∈ rs then some o else C c
theorem ups_in {C : Hp} {rs : List Addr} {o : HO} {c : Addr} (h : c ∈ rs) : ups C rs o c = some o := if_pos h
theorem ups_out {C : Hp} {rs : List Addr} {o : HO} {c : Addr} (h : c ∉ rs) : ups C rs o c = C c := if_neg h
section
variable {b : Bool} {G0 H0 : Hp} {A : List Addr} {C C' : Hp} {ps qs : Ds} {σ : L2.St} {H H' : Hp} {K : PySem.W.Frag}
theorem rl_adrs {G : Hp} : ∀ rs : List Addr, RL b G (rs.map V.ref) (rs.map D.adr)
  | [] => .nil
  | r :: rs => .cons (.adr r) (rl_adrs rs)
/-- many new objects of its own -/
theorem At.owns_ (a : At b G0 H0 A C ps σ H) {rs : List Addr} {o : HO} (e : Same H H') (hn : ∀ r ∈ rs, H r = none) (ho : ∀ r ∈ rs, H' r = some o) (nt : NT o) : At b G0 H0 (rs ++ A) (ups C rs o) ps σ H' ∧ (∀ r ∈ rs, r ∉ A ∧ H0 r = none) := by
  have hA : ∀ r ∈ rs, r ∉ A := fun r hr m => by
    obtain ⟨u, _, i, _⟩ := a.own r m
    rw [hn r hr] at i; cases i
  have h0 : ∀ r ∈ rs, H0 r = none := fun r hr => by
    cases e : H0 r with
    | none => rfl
    | some u =>
      have := a.same r u (hA r hr) e
      rw [hn r hr] at this; cases this
  refine ⟨⟨a.sub, fun c m => ?_, fun c u m h => e _ _ (a.same c u (fun z => m (List.mem_append_right _ z)) h), fun c m => ?_, a.sl.same fun c u h => ?_⟩, fun r hr => ⟨hA r hr, h0 r hr⟩⟩
  · rcases List.mem_append.mp m with m | m
    · cases e : G0 c with
      | none => rfl
      | some u =>
        have := a.sub _ _ e
        rw [h0 c m] at this; cases this
    · exact a.out c m
  · by_cases hc : c ∈ rs
    · exact ⟨o, ups_in hc, ho c hc, nt⟩
    · rcases List.mem_append.mp m with m | m
      · exact absurd m hc
      · obtain ⟨u, h1, h2, h3⟩ := a.own c m
        exact ⟨u, by rw [ups_out hc]; exact h1, e _ _ h2, h3⟩
  · have hcA : c ∉ A := fun m => by rw [gx_out c m] at h; cases h
    have hH := a.gsub _ _ h
    have hcr : c ∉ rs := fun m => by rw [hn c m] at hH; cases hH
    have h2 := a.up (.of e) (a.own.same e) _ _ h
    unfold Gx at h2 ⊢
    rw [hid_out hcA] at h2
    rw [hid_out (fun m => (List.mem_append.mp m).elim hcr hcA)]
    exact h2
/-- [[i] for x in range(n)] -/
theorem At.newRows (a : At b G0 H0 A C ps σ H) {t : TA} {n : Nat} {i : Int} {x : Nat} {Q : VK} (h : EaP b ps t [.int (n : Nat)]) (hn : n ≤ 1000)
    (k : ∀ D rs H', Same H H' → rs.length = n → rs.Nodup → (∀ r ∈ rs, r ∉ A ∧ H0 r = none) → D ∉ A → D ∉ rs → H0 D = none → At b G0 H0 (rs ++ A) (ups C rs (.lst [.int i])) ps σ H' → R b (Gx (rs ++ A) G0 H0 H') (.ref D) (.lst (rs.map .adr)) → Q (.ref D) H') :
    tLc (iRng1 t) (gName x) tYes (tLst (tCons (tC (.int i)) tNil)) [x] σ H Q :=
  a.eaP h fun vs H1 e1 a1 r1 => by
  obtain ⟨v, rfl, rv⟩ := r1.one_
  refine ⟨(n : Int), by rw [rv.int_], by omega, by omega, fun D hD => ?_⟩
  refine ⟨fun j m Hc => m = n - j ∧ j ≤ n ∧ ∃ rs : List Addr, rs.length = j ∧ rs.Nodup ∧ (∀ r ∈ rs, H1 r = none ∧ r ≠ D ∧ Hc r = some (.lst [.int i])) ∧ Hc D = some (.lst (rs.map V.ref)) ∧ Same H1 Hc, ⟨n, rfl, Nat.zero_le _, [], rfl, by simp, (fun r m => nomatch m), upd_same, same_upd hD⟩, ?_⟩
  rintro j m Hc ⟨rfl, hle, rs, hl, hnd, hrs, hDc, ec⟩
  by_cases hj : j < n
  · refine .inr ⟨by show j < (n : Int).toNat; omega, fun H' => ∃ rs : List Addr, rs.length = j + 1 ∧ rs.Nodup ∧ (∀ r ∈ rs, H1 r = none ∧ r ≠ D ∧ H' r = some (.lst [.int i])) ∧ H' D = some (.lst (rs.map V.ref)) ∧ Same H1 H', fun H' hN => ⟨n - (j + 1), by omega, rfl, hj, hN⟩, fun y H2 ⟨hy1, hy2⟩ => ?_⟩
    subst hy1
    have hw : wipe ((wipe σ [x]).set x (some y)) [x] = wipe σ [x] := by
      show (((σ.set x none).set x (some y)).set x none) = σ.set x none
      rw [List.set_set, List.set_set]
    refine ⟨hw, ?_⟩
    unfold tYes; dsimp only
    rw [if_pos rfl]
    refine ⟨by show 1 ≤ sizeLine; decide, fun p hp => ?_⟩
    have hpD : p ≠ D := fun z => by rw [z, hDc] at hp; cases hp
    refine ⟨rs.map V.ref, by rw [upd_ne hpD.symm]; exact hDc, by rw [List.length_map, hl]; exact Nat.lt_of_lt_of_le (by omega : j < 1000) (by decide), rs ++ [p], by rw [List.length_append, hl]; rfl, ?_, fun r hr => ?_, by rw [upd_same, List.map_append]; rfl, fun c u hc => ?_⟩
    · refine List.nodup_append.mpr ⟨hnd, by simp, fun r hr s hs => ?_⟩
      rw [List.mem_singleton.mp hs]
      exact fun z => by
        have := (hrs r hr).2.2
        rw [z, hp] at this; cases this
    · rcases List.mem_append.mp hr with hr | hr
      · obtain ⟨h1, h2, h3⟩ := hrs r hr
        refine ⟨h1, h2, ?_⟩
        rw [upd_ne h2, upd_ne (fun z => by rw [z, hp] at h3; cases h3)]
        exact h3
      · rw [List.mem_singleton.mp hr]
        exact ⟨Same.free ec hp, hpD, by rw [upd_ne hpD, upd_same]⟩
    · rw [upd_ne (fun z => by rw [z, hD] at hc; cases hc), upd_ne (fun z => by rw [z] at hc; rw [ec _ _ hc] at hp; cases hp)]
      exact ec _ _ hc
  · have hjn : j = n := by omega
    subst hjn
    refine .inl ⟨by show (j : Int).toNat ≤ j; omega, ?_⟩
    obtain ⟨a2, h3⟩ := a1.owns_ (rs := rs) (o := .lst [.int i]) ec (fun r hr => (hrs r hr).1) (fun r hr => (hrs r hr).2.2) trivial
    have hDA : D ∉ A := fun m => by
      obtain ⟨u, _, i, _⟩ := a1.own D m
      rw [hD] at i; cases i
    have hDr : D ∉ rs := fun m => (hrs D m).2.1 rfl
    have hD0 : H0 D = none := by
      cases e : H0 D with
      | none => rfl
      | some u =>
        have := a1.same D u hDA e
        rw [hD] at this; cases this
    refine k D rs Hc (e1.trans ec) hl hnd h3 hDA hDr hD0 a2 (.lst (gx_at hD0 (fun m => (List.mem_append.mp m).elim hDr hDA) hDc) (rl_adrs rs))
/-- o.append(e) -/
theorem At.appendX (a : At b G0 H0 A C ps σ H) {p : Addr} {xs : List V} {to te : TE} {d : D} {Dn : Ends} (hp : p ∈ A) (hc : C p = some (.lst xs)) (hz : xs.length ≤ 100000) (ho : EvP b ps to (.adr p)) (h : EvX A C b ps te d C') (hc' : C' p = some (.lst xs))
    (k : ∀ v H', SameX A H H' → At b G0 H0 A (upd C' p (.lst (xs ++ [v]))) ps σ H' → R b (Gx A G0 H0 H') v d → Dn.nx σ H') : tDrop (tBM K "list" rAppend to (tCons te tNil)) Dn σ H := by
  unfold tDrop tBM
  refine a.evP ho fun x H1 e1 a1 r1 => ?_
  cases r1.adr_
  have e2 : H1 p = some (.lst xs) := by rw [a1.own.at hp]; exact hc
  refine ⟨.inl ⟨rfl, xs, SqL.of e2⟩, ?_⟩
  refine a1.ev h fun v H2 e3 a2 r2 => ?_
  have e4 : H2 p = some (.lst xs) := by rw [a2.own.at hp]; exact hc'
  refine ⟨p, xs, v, rfl, rfl, e4, Nat.lt_of_le_of_lt hz (by decide), k v _ (((SameX.of e1).trans e3).trans fun c u m h => ?_) (a2.write hp trivial) (by rw [gx_write hp]; exact r2)⟩
  rw [upd_ne (fun z => m (by rw [z]; exact hp))]
  exact h
end
end SP
set_option Elab.async false
set_option linter.all false
set_option maxRecDepth 100000
set_option maxHeartbeats 1000000
/-! Stillpanes: the small defs. -/
namespace SP
open PySem L2 PySem.Spec PyProof.Rows
/-- a tuple of naturals -/
def nats (l : List Nat) : D := .tup (l.map fun (n : Nat) => D.int (n : Int))
theorem keyD_imm (k : List Int) : Imm (keyD k) := .tup fun d hd => by
  obtain ⟨i, _, rfl⟩ := List.mem_map.mp hd
  exact .int i
theorem nats_imm (k : List Nat) : Imm (nats k) := .tup fun d hd => by
  obtain ⟨i, _, rfl⟩ := List.mem_map.mp hd
  exact .int i
theorem atI_key {k : List Int} {i : Nat} (h : i < k.length) : atI (k.map D.int) (i : Int) = some (.int (k.getD i 0)) := by
  refine atI_nat ?_
  rw [List.getElem?_map, List.getElem?_eq_getElem h, List.getD_eq_getElem?_getD, List.getElem?_eq_getElem h]
  rfl
theorem cutD_pre {ds : List D} {i : Nat} (h : i ≤ ds.length) : cutD ds none (some (i : Int)) = ds.take i := by
  unfold cutD
  rw [HT.sIx_none, HT.sIx_nat, List.drop_zero, Nat.sub_zero, Nat.min_eq_left h]
theorem cutD_suf {ds : List D} {i : Nat} (h : i ≤ ds.length) : cutD ds (some (i : Int)) none = ds.drop i := by
  unfold cutD
  rw [HT.sIx_none, HT.sIx_nat, Nat.min_eq_left h]
  rw [← List.length_drop, List.take_length]
theorem cutD_suf1 {ds : List D} {i : Nat} (h : i + 1 ≤ ds.length) : cutD ds (some ((i : Int) + 1)) none = ds.drop (i + 1) := cutD_suf (i := i + 1) h
section
variable {P : Program} {w : World} {K : PySem.W.Frag} {mg : Str → Option Value} {base : Heap}

/-! ### counts_more, less_one -/
def moreZ (c : List Int) (p : Nat) : List Int := c.set p (c.getD p 0 + 1)
def lessZ (c : List Int) (p : Nat) : List Int := c.set p (c.getD p 0 - 1)
theorem set_cut {α : Type} (l : List α) (i : Nat) (x : α) (h : i < l.length) : l.take i ++ [x] ++ l.drop (i + 1) = l.set i x := by
  rw [List.set_eq_take_append_cons_drop, if_pos h]
  simp
def FMore (ds : List D) (d : D) : Prop := ∃ (c : List Int) (p : Nat), ds = [keyD c, .int (p : Int)] ∧ p < c.length ∧ c.length ≤ 1000 ∧ d = keyD (moreZ c p)
theorem sc_counts_more : FnScope ["counts", "pane"] ["counts", "pane"] (defScope (top 11)) := ⟨rfl, rfl, rfl, by decide +kernel, rfl, by decide +kernel, by decide +kernel⟩
theorem ok_counts_more {f : Addr} {fd : FuncData} (Fn : Fun K "counts_more" "counts_more" (top 11) f fd) : FnOk P w K mg base (L2.CX P w) 1 f fd ["counts", "pane"] (SpR FMore) := by
  refine ok_imm (k := 0) Fn sc_counts_more (fun ds d ⟨c, p, e, _, _, ed⟩ => by subst e ed; exact ⟨rfl, keyD_imm _⟩) fun cdv A outer s H E ds d hr ⟨c, p, e, h1, h2, ed⟩ => ?_
  subst e ed
  refine ⟨_, (pss_one (ps_ret (pe_op (catT_ K) (pe_op (catT_ K) (pe_slice (slT_ K) (pv 0) po_none (po_some (pv 1))) (pe_tup (pa_cons (pe_op op_add (pe_ix (ixT_ K) (pv 0) (pv 1) (fun _ _ => rfl)) pe_int) pa_nil))) (pe_slice (slT_ K) (pv 0) (po_some (pe_op op_add (pv 1) pe_int)) po_none)))), ?_⟩
  refine sd_ret (EvP.is (ev_catT (ev_catT (ev_sliceT (ev_var rfl) eo_none (eo_some (ev_var rfl))) (ev_tup (ea_cons (ev_add (ev_ixT (ev_var rfl) (ev_var rfl) (atI_key h1)) ev_int) ea_nil) (by simp)) ?_) (ev_sliceT (ev_var rfl) (eo_some (ev_add (ev_var rfl) ev_int)) eo_none) ?_) ?_)
  · rw [cutD_pre (by simpa using Nat.le_of_lt h1)]
    simp
    omega
  · rw [cutD_pre (by simpa using Nat.le_of_lt h1), cutD_suf1 (by simp; omega)]
    simp
    omega
  · rw [cutD_pre (by simpa using Nat.le_of_lt h1), cutD_suf1 (by simp; omega)]
    show D.tup _ = D.tup _
    rw [moreZ, ← set_cut _ _ _ h1]
    simp
def FLess (ds : List D) (d : D) : Prop := ∃ (c : List Int) (p : Nat), ds = [keyD c, .int (p : Int)] ∧ p < c.length ∧ c.length ≤ 1000 ∧ d = keyD (lessZ c p)
theorem sc_less_one : FnScope ["counts", "pane"] ["counts", "pane"] (defScope (top 17)) := ⟨rfl, rfl, rfl, by decide +kernel, rfl, by decide +kernel, by decide +kernel⟩
theorem ok_less_one {f : Addr} {fd : FuncData} (Fn : Fun K "less_one" "less_one" (top 17) f fd) : FnOk P w K mg base (L2.CX P w) 1 f fd ["counts", "pane"] (SpR FLess) := by
  refine ok_imm (k := 0) Fn sc_less_one (fun ds d ⟨c, p, e, _, _, ed⟩ => by subst e ed; exact ⟨rfl, keyD_imm _⟩) fun cdv A outer s H E ds d hr ⟨c, p, e, h1, h2, ed⟩ => ?_
  subst e ed
  refine ⟨_, (pss_one (ps_ret (pe_op (catT_ K) (pe_op (catT_ K) (pe_slice (slT_ K) (pv 0) po_none (po_some (pv 1))) (pe_tup (pa_cons (pe_op op_sub (pe_ix (ixT_ K) (pv 0) (pv 1) (fun _ _ => rfl)) pe_int) pa_nil))) (pe_slice (slT_ K) (pv 0) (po_some (pe_op op_add (pv 1) pe_int)) po_none)))), ?_⟩
  refine sd_ret (EvP.is (ev_catT (ev_catT (ev_sliceT (ev_var rfl) eo_none (eo_some (ev_var rfl))) (ev_tup (ea_cons (ev_sub (ev_ixT (ev_var rfl) (ev_var rfl) (atI_key h1)) ev_int) ea_nil) (by simp)) ?_) (ev_sliceT (ev_var rfl) (eo_some (ev_add (ev_var rfl) ev_int)) eo_none) ?_) ?_)
  · rw [cutD_pre (by simpa using Nat.le_of_lt h1)]
    simp
    omega
  · rw [cutD_pre (by simpa using Nat.le_of_lt h1), cutD_suf1 (by simp; omega)]
    simp
    omega
  · rw [cutD_pre (by simpa using Nat.le_of_lt h1), cutD_suf1 (by simp; omega)]
    show D.tup _ = D.tup _
    rw [lessZ, ← set_cut _ _ _ h1]
    simp

/-! ### is_number, is_from -/
def D.isNum : D → Bool
  | .int _ => true
  | _ => false
def FNum (ds : List D) (d : D) : Prop := ∃ x n, ds = [x] ∧ x.tyN = some n ∧ d = .bl x.isNum
theorem sc_is_number : FnScope ["thing"] ["thing"] (defScope (top 4)) := ⟨rfl, rfl, rfl, by decide +kernel, rfl, by decide +kernel, by decide +kernel⟩
theorem ok_is_number (T : Txt mg) {f : Addr} {fd : FuncData} (Fn : Fun K "is_number" "is_number" (top 4) f fd) : FnOk P w K mg base (L2.CX P w) 1 f fd ["thing"] (SpR FNum) := by
  refine ok_imm (k := 0) Fn sc_is_number (fun ds d ⟨x, n, e, _, ed⟩ => by subst e ed; exact ⟨rfl, .bl _⟩) fun cdv A outer s H E ds d hr ⟨x, n, e, hx, ed⟩ => ?_
  subst e ed
  refine ⟨_, (pss_one (ps_ret (pe_and (pe_callB (isi_ K) (by rfl) T.isinstance_ bt_isinstance (pa_cons (pv 0) (pa_cons (pe_bltn (v := .ty "int") (by rfl) T.int_ bt_int rfl) pa_nil))) (pe_one (pe_not (pe_callB (isi_ K) (by rfl) T.isinstance_ bt_isinstance (pa_cons (pv 0) (pa_cons (pe_bltn (v := .ty "bool") (by rfl) T.bool_ bt_bool rfl) pa_nil)))))))), sd_ret ?_⟩
  cases x with
  | non => exact EvP.is (ev_andV (k := true) (ev_isi (ea_cons (ev_var rfl) (ea_cons ev_cls ea_nil)) rfl (by decide +kernel : kitB "NoneType" "int" = some false)) fun h => nomatch h) rfl
  | bl c => exact EvP.is (ev_andV (ev_isi (ea_cons (ev_var rfl) (ea_cons ev_cls ea_nil)) rfl (by decide +kernel : kitB "bool" "int" = some true)) fun _ => ev_notV (ev_isi (ea_cons (ev_var rfl) (ea_cons ev_cls ea_nil)) rfl (by decide +kernel : kitB "bool" "bool" = some true))) rfl
  | int i => exact EvP.is (ev_andV (ev_isi (ea_cons (ev_var rfl) (ea_cons ev_cls ea_nil)) rfl (by decide +kernel : kitB "int" "int" = some true)) fun _ => ev_notV (ev_isi (ea_cons (ev_var rfl) (ea_cons ev_cls ea_nil)) rfl (by decide +kernel : kitB "int" "bool" = some false))) rfl
  | str y => exact EvP.is (ev_andV (k := true) (ev_isi (ea_cons (ev_var rfl) (ea_cons ev_cls ea_nil)) rfl (by decide +kernel : kitB "str" "int" = some false)) fun h => nomatch h) rfl
  | tup y => exact EvP.is (ev_andV (k := true) (ev_isi (ea_cons (ev_var rfl) (ea_cons ev_cls ea_nil)) rfl (by decide +kernel : kitB "tuple" "int" = some false)) fun h => nomatch h) rfl
  | lst y => exact EvP.is (ev_andV (k := true) (ev_isi (ea_cons (ev_var rfl) (ea_cons ev_cls ea_nil)) rfl (by decide +kernel : kitB "list" "int" = some false)) fun h => nomatch h) rfl
  | _ => cases hx
def fromD (l : Int) : D → Bool
  | .int i => decide (l ≤ i)
  | _ => false
def FFrom (ds : List D) (d : D) : Prop := ∃ x n l, ds = [x, .int l] ∧ x.tyN = some n ∧ d = .bl (fromD l x)
theorem sc_is_from : FnScope ["thing", "least"] ["thing", "least"] (defScope (top 8)) := ⟨rfl, rfl, rfl, by decide +kernel, rfl, by decide +kernel, by decide +kernel⟩
theorem ok_is_from (h_is_number : Has P w K mg base "is_number" ["thing"] 1 (SpR FNum)) {f : Addr} {fd : FuncData} (Fn : Fun K "is_from" "is_from" (top 8) f fd) : FnOk P w K mg base (L2.CX P w) 2 f fd ["thing", "least"] (SpR FFrom) := by
  refine ok_imm (k := 1) Fn sc_is_from (fun ds d ⟨x, n, l, e, _, ed⟩ => by subst e ed; exact ⟨rfl, .bl _⟩) fun cdv A outer s H E ds d hr ⟨x, n, l, e, hx, ed⟩ => ?_
  subst e ed
  have hr_is_number := hr
  refine ⟨_, (pss_one (ps_ret (pe_and (pe_has h_is_number hr_is_number (by rfl) (pa_cons (pv 0) pa_nil) pass0) (pe_one (pe_cmpR op_ge (pv 0) (pv 1) (nomark _)))))), sd_ret ?_⟩
  have h1 := ev_call (E := fun _ => E0) (F := FNum) (ea_cons (ev_var (b := false) (ps := ps0 ["thing", "least"] [x, .int l]) (n := 0) (d := x) rfl) ea_nil) ⟨x, n, rfl, hx, rfl⟩
  cases x with
  | int i => exact EvP.is (ev_andV h1 fun _ => ev_ge (ev_var rfl) (ev_var rfl)) rfl
  | _ => exact EvP.is (ev_andV (k := true) h1 fun h => nomatch h) rfl

/-! ### has_next -/
theorem atI_mapN {α : Type} {g : α → D} {l : List α} {i : Nat} (z : α) (h : i < l.length) : atI (l.map g) (i : Int) = some (g (l.getD i z)) := by
  refine atI_nat ?_
  rw [List.getElem?_map, List.getElem?_eq_getElem h, List.getD_eq_getElem?_getD, List.getElem?_eq_getElem h]
  rfl
def FNext (ds : List D) (d : D) : Prop := ∃ (c : List Int) (ks : List (List Int × D)), ds = [keyD c, .dct ks] ∧ c.length ≤ 1000 ∧ d = .bl ((List.range c.length).any fun p => (valD ks (moreZ c p)).isSome)
theorem sc_has_next : FnScope ["counts", "later", "pane"] ["counts", "later"] (defScope (top 14)) := ⟨rfl, rfl, rfl, by decide +kernel, rfl, by decide +kernel, by decide +kernel⟩
theorem moreZ_len (c : List Int) (p : Nat) : (moreZ c p).length = c.length := by unfold moreZ; simp
theorem rng0 (n : Nat) : ((List.range n).map fun i => D.int (0 + (i : Nat))) = (List.range n).map fun (i : Nat) => D.int (i : Int) := by
  congr 1
  funext i
  rw [Int.zero_add]
theorem ok_has_next (T : Txt mg) (h_counts_more : Has P w K mg base "counts_more" ["counts", "pane"] 1 (SpR FMore)) {f : Addr} {fd : FuncData} (Fn : Fun K "has_next" "has_next" (top 14) f fd) : FnOk P w K mg base (L2.CX P w) 2 f fd ["counts", "later"] (SpR FNext) := by
  refine ok_imm (k := 1) Fn sc_has_next (fun ds d ⟨c, ks, e, _, ed⟩ => by subst e ed; exact ⟨rfl, .bl _⟩) fun cdv A outer s H E ds d hr ⟨c, ks, e, h1, ed⟩ => ?_
  subst e ed
  have hr_counts_more := hr
  have hu1 := un_of (n := 1) hr
  refine ⟨_, (pss_one (ps_ret (pe_callB (any_ K rfl) (by rfl) T.any_ bt_any (pa_cons (pe_lc (own := [("pane", 2)]) rfl sc_has_next.nd (pi_range1 (by rfl) T.range_ (pa_cons (pe_callB (len_ K) (by rfl) T.len_ bt_len (pa_cons (pv 0) pa_nil)) pa_nil)) (blkOk_by (by rfl)) (fun _ _ _ _ _ => (pg_name (i := 2) sc_has_next.nd rfl (Or.inl rfl))) (fun _ _ _ _ _ => pts_nil) (fun _ _ _ _ _ => (pe_cmp (pc_din hu1 (pe_has h_counts_more hr_counts_more (by rfl) (pa_cons (pv 0) (pa_cons (pv 2) pa_nil)) pass0) (pv 1))))) pa_nil)))), sd_ret (EvP.is (ev_any (bs := (List.range c.length).map fun p => (valD ks (moreZ c p)).isSome) (ea_cons ?_ ea_nil)) ?_)⟩
  · refine ev_lcA (List.range c.length) (fun (i : Nat) => .int (i : Int)) (fun i => (ps0 ["counts", "later", "pane"] [keyD c, .dct ks]).set 2 (some (.int (i : Nat)))) (fun p => .bl (valD ks (moreZ c p)).isSome) (by rw [List.map_map]; rfl) (by simp; omega) (IvP.is (iv_rng1 (ea_cons (ev_lenT (ea_cons (ev_var rfl) ea_nil)) ea_nil) (n := c.length) (by simp) (by simp; omega)) (rng0 _)) (fun x hx => gd_name) fun x hx => ?_
    have hx' : x < c.length := List.mem_range.mp hx
    exact ev_din (ev_call (F := FMore) (ea_cons (ev_var rfl) (ea_cons (ev_var rfl) ea_nil)) ⟨c, x, rfl, hx', h1, rfl⟩) (ev_var (d := .dct ks) rfl) rfl
  · rw [List.any_map]
    rfl
end
end SP
set_option Elab.async false
set_option linter.all false
set_option maxRecDepth 100000
set_option maxHeartbeats 1000000
/-! Stillpanes: layouts, limits; is_within, moved, the law's own sums. -/
namespace SP
open PySem L2 PySem.Spec PyProof.Rows
structure Lay where
  parts : Int
  rows : List (List Int)
def Lay.d (L : Lay) : D := .tup [.int L.parts, .tup (L.rows.map keyD)]
def limD (l : List Nat × Int) : D := .tup [nats l.1, .int l.2]
def limsD (ls : List (List Nat × Int)) : D := .tup (ls.map limD)
theorem Lay.imm (L : Lay) : Imm L.d := .tup fun d hd => by
  rcases List.mem_cons.mp hd with rfl | hd
  · exact .int _
  · rw [List.mem_singleton.mp hd]
    refine .tup fun d hd => ?_
    obtain ⟨k, _, rfl⟩ := List.mem_map.mp hd
    exact keyD_imm k
theorem limsD_imm (ls : List (List Nat × Int)) : Imm (limsD ls) := .tup fun d hd => by
  obtain ⟨l, _, rfl⟩ := List.mem_map.mp hd
  refine .tup fun d hd => ?_
  rcases List.mem_cons.mp hd with rfl | hd
  · exact nats_imm _
  · rw [List.mem_singleton.mp hd]; exact .int _
/-- what the proofs ask of a layout over W pixels, of limits, of a drawing -/
structure Lay.Ok (L : Lay) (W : Nat) : Prop where
  p0 : 0 < L.parts
  p1 : L.parts ≤ 1000
  n0 : 2 ≤ L.rows.length
  n1 : L.rows.length ≤ 100
  len : ∀ p, p < L.rows.length → (L.rows.getD p []).length = W + 1
  w1 : W ≤ 100
structure LimsOk (L : Lay) (ls : List (List Nat × Int)) : Prop where
  ix : ∀ l ∈ ls, ∀ p ∈ l.1, p < L.rows.length
  g1 : ∀ l ∈ ls, l.1.length ≤ 100
  l1 : ls.length ≤ 100
def DrawOk (L : Lay) (W : Nat) (d : List Nat) : Prop := d.length = W ∧ ∀ p ∈ d, p < L.rows.length
/-- the exact sum of a group at a width; the sum of a group's counts -/
def exactAt (L : Lay) (g : List Nat) (w : Nat) : Int := (g.map fun p => (L.rows.getD p []).getD w 0).sum
def countOf (c : List Int) (g : List Nat) : Int := (g.map fun p => c.getD p 0).sum
def offAt (L : Lay) (g : List Nat) (w : Nat) (k : Int) : Int := ((k * L.parts - exactAt L g w).natAbs : Nat)
def within (L : Lay) (ls : List (List Nat × Int)) (w : Nat) (c : List Int) : Bool := !ls.any fun l => decide (l.2 < offAt L l.1 w (countOf c l.1))
theorem pow64 : (2 : Int) ^ 64 = 18446744073709551616 := by decide
theorem cmul_r {i j : Int} (h0 : -1000000 ≤ j) (h1 : j ≤ 1000000) : CMul i j := .inr (by rw [pow64]; omega)
theorem cmul_l {i j : Int} (h0 : -1000000 ≤ i) (h1 : i ≤ 1000000) : CMul i j := .inl (by rw [pow64]; omega)
section
variable {P : Program} {w : World} {K : PySem.W.Frag} {mg : Str → Option Value} {base : Heap}
/-- [rows[pane][width] for pane in group] -/
theorem rows_at {L : Lay} {W : Nat} (hL : L.Ok W) {p wd : Nat} (h1 : p < L.rows.length) (h2 : wd ≤ W) : atI (L.rows.map keyD) (p : Int) = some (keyD (L.rows.getD p [])) ∧ atI ((L.rows.getD p []).map D.int) (wd : Int) = some (.int ((L.rows.getD p []).getD wd 0)) :=
  ⟨atI_mapN [] h1, atI_mapN 0 (by rw [hL.len p h1]; omega)⟩
def FWithin (ds : List D) (d : D) : Prop := ∃ (L : Lay) (W : Nat) (ls : List (List Nat × Int)) (wd : Nat) (c : List Int), ds = [L.d, limsD ls, .int (wd : Int), keyD c] ∧ L.Ok W ∧ LimsOk L ls ∧ wd ≤ W ∧ c.length = L.rows.length ∧ d = .bl (within L ls wd c)
theorem sc_is_within : FnScope ["layout", "limits", "width", "counts", "parts", "rows", "group", "off", "exact", "pane"] ["layout", "limits", "width", "counts"] (defScope (top 10)) := ⟨rfl, rfl, rfl, by decide +kernel, rfl, by decide +kernel, by decide +kernel⟩
theorem ok_is_within (T : Txt mg) {f : Addr} {fd : FuncData} (Fn : Fun K "is_within" "is_within" (top 10) f fd) : FnOk P w K mg base (L2.CX P w) 1 f fd ["layout", "limits", "width", "counts"] (SpR FWithin) := by
  refine ok_imm (k := 0) Fn sc_is_within (fun ds d ⟨L, W, ls, wd, c, e, _, _, _, _, ed⟩ => by subst e ed; exact ⟨rfl, .bl _⟩) fun cdv A outer s H E ds d hr ⟨L, W, ls, wd, c, e, hL, hl, hw, hc, ed⟩ => ?_
  subst e ed
  refine ⟨_, (pss_cons (ps_asg (pv 0) (gT_ K (n := 2) rfl (pgs_cons (pg_name (i := 4) sc_is_within.nd rfl (Or.inl rfl)) (pgs_cons (pg_name (i := 5) sc_is_within.nd rfl (Or.inr rfl)) pgs_nil))))
      (pss_cons (ps_for (passes_of rfl) rfl (iT_ K (pv 1)) (gT_ K (n := 2) rfl (pgs_cons (pg_name (i := 6) sc_is_within.nd rfl (Or.inl rfl)) (pgs_cons (pg_name (i := 7) sc_is_within.nd rfl (Or.inl rfl)) pgs_nil)))
      (pss_cons (ps_set (i := 8) sc_is_within.nd rfl (Or.inl rfl) (pe_callB (sum_ K rfl) (by rfl) T.sum_ bt_sum (pa_cons (pe_lc (own := [("pane", 9)]) rfl sc_is_within.nd (iT_ K (pv 6)) (blkOk_by (by rfl)) (fun _ _ _ _ _ => (pg_name (i := 9) sc_is_within.nd rfl (Or.inl rfl))) (fun _ _ _ _ _ => pts_nil) (fun _ _ _ _ _ => (pe_ix (ixT_ K) (pe_ix (ixT_ K) (pv 5) (pv 9) (fun _ _ => rfl)) (pv 2) (fun _ _ => rfl)))) pa_nil)))
      (pss_one (ps_if (pt_cmpR op_gt (pe_callB call_abs (by rfl) T.abs_ bt_abs (pa_cons (pe_op op_sub (pe_op op_mul (pe_callB (sum_ K rfl) (by rfl) T.sum_ bt_sum (pa_cons (pe_lc (own := [("pane", 9)]) rfl sc_is_within.nd (iT_ K (pv 6)) (blkOk_by (by rfl)) (fun _ _ _ _ _ => (pg_name (i := 9) sc_is_within.nd rfl (Or.inl rfl))) (fun _ _ _ _ _ => pts_nil) (fun _ _ _ _ _ => (pe_ix (ixT_ K) (pv 3) (pv 9) (fun _ _ => rfl)))) pa_nil)) (pv 4)) (pv 8)) pa_nil)) (pv 7) (nomark _))
      (pss_one (ps_ret pe_bl))
      pss_nil))))
      (pss_one (ps_ret pe_bl)))), ?_⟩
  have p0 := hL.p0
  have p1 := hL.p1
  refine sd_seq (sd_asg (vs := [4, 5]) (ev_var rfl) (gd_tup (gs_cons gd_name (gs_cons gd_name gs_nil)) rfl)) ?_
  refine sd_findS (vs := [6, 7]) ls limD (fun l => decide (l.2 < offAt L l.1 wd (countOf c l.1))) (.bl false) [6, 7, 8] (iv_tup (ev_var rfl)) (fun l hl' => ?_) (fun h => by unfold within; rw [h]; rfl) fun h => by
    unfold within
    rw [h]
    exact sd_ret ev_bl
  refine ⟨_, [some L.d, some (limsD ls), some (.int (wd : Int)), some (keyD c), some (.int L.parts), some (.tup (L.rows.map keyD)), some (nats l.1), some (.int l.2), some (.int (exactAt L l.1 wd)), none], gd_tup (gs_cons gd_name (gs_cons gd_name gs_nil)) rfl, rfl, sd_seq (sd_set (ev_sum (ns := l.1.map fun p => (L.rows.getD p []).getD wd 0) (ea_cons (ev_lcA l.1 (fun (n : Nat) => .int (n : Int)) (fun n => [some L.d, some (limsD ls), some (.int (wd : Int)), some (keyD c), some (.int L.parts), some (.tup (L.rows.map keyD)), some (nats l.1), some (.int l.2), none, some (.int (n : Int))]) (fun p => .int ((L.rows.getD p []).getD wd 0)) (by rw [List.map_map]; rfl) (by have := hl.g1 l hl'; omega) (iv_tup (ev_var rfl)) (fun x hx => gd_1) fun x hx => ?_) ea_nil))) ?_⟩
  · obtain ⟨a1, a2⟩ := rows_at hL (hl.ix l hl' x hx) hw
    exact ev_ixT (ev_ixT (ev_var rfl) (ev_var rfl) a1) (ev_var rfl) a2
  · exact sd_ifB (et_test (ev_gt (ev_abs (ea_cons (ev_sub (ev_mul (ev_sum (ns := l.1.map fun p => c.getD p 0) (ea_cons (ev_lcA l.1 (fun (n : Nat) => .int (n : Int)) (fun n => [some L.d, some (limsD ls), some (.int (wd : Int)), some (keyD c), some (.int L.parts), some (.tup (L.rows.map keyD)), some (nats l.1), some (.int l.2), some (.int (exactAt L l.1 wd)), some (.int (n : Int))]) (fun p => .int (c.getD p 0)) (by rw [List.map_map]; rfl) (by have := hl.g1 l hl'; omega) (iv_tup (ev_var rfl)) (fun x hx => gd_1) fun x hx => ev_ixT (ev_var rfl) (ev_var rfl) (atI_key (by rw [hc]; exact hl.ix l hl' x hx))) ea_nil)) (ev_var rfl) (cmul_r (by omega) (by omega))) (ev_var rfl)) ea_nil)) (ev_var rfl))) (fun _ => sd_ret ev_bl) fun _ => sd_next
end
end SP
set_option Elab.async false
set_option linter.all false
set_option maxRecDepth 100000
set_option maxHeartbeats 1000000
/-! Stillpanes: moved; the law's sums, rows, keeps, moves. -/
namespace SP
open PySem L2 PySem.Spec PyProof.Rows
section
variable {P : Program} {w : World} {K : PySem.W.Frag} {mg : Str → Option Value} {base : Heap}
theorem enum_map {α : Type} (g : α → D) (l : List α) : enumD (l.map g) = l.zipIdx.map fun p => .tup [.int (p.2 : Nat), g p.1] := by
  unfold enumD
  rw [List.zipIdx_map, List.map_map]
  rfl
theorem zip_map {α β : Type} (g : α → D) (k : β → D) (l : List α) (m : List β) : zipD (l.map g) (m.map k) = (l.zip m).map fun p => .tup [g p.1, k p.2] := by
  unfold zipD
  rw [List.zip_map, List.map_map]
  rfl
/-! ### moved -/
def movedN (a b : List Nat) : List Nat := ((a.zip b).zipIdx.filter fun p => !decide (p.1.1 = p.1.2)).map (·.2)
def FMoved (ds : List D) (d : D) : Prop := ∃ (x : D) (a b : List Nat), ds = [x, nats a, nats b] ∧ a.length ≤ 1000 ∧ b.length ≤ 1000 ∧ d = nats (movedN a b)
theorem sc_moved : FnScope ["layout", "drawing", "other", "place", "one", "far"] ["layout", "drawing", "other"] (defScope (top 9)) := ⟨rfl, rfl, rfl, by decide +kernel, rfl, by decide +kernel, by decide +kernel⟩
theorem ok_moved (T : Txt mg) {f : Addr} {fd : FuncData} (Fn : Fun K "moved" "moved" (top 9) f fd) : FnOk P w K mg base (L2.CX P w) 1 f fd ["layout", "drawing", "other"] (SpR FMoved) := by
  refine ok_imm (k := 0) Fn sc_moved (fun ds d ⟨x, a, b, e, _, _, ed⟩ => by subst e ed; exact ⟨rfl, nats_imm _⟩) fun cdv A outer s H E ds d hr ⟨x, a, b, e, h1, h2, ed⟩ => ?_
  subst e ed
  refine ⟨_, (pss_one (ps_ret (pe_callTy (tup_ K) (by rfl) T.tuple_ bt_tuple (pa_cons (pe_lc (own := [("place", 3), ("one", 4), ("far", 5)]) rfl sc_moved.nd (eZ_ K (by rfl) T.enumerate_ (by rfl) T.zip_ (pa_cons (pv 1) (pa_cons (pv 2) pa_nil))) (blkOk_by (by rfl)) (fun _ _ _ _ _ => (gT_ K (n := 2) rfl (pgs_cons (pg_name (i := 3) sc_moved.nd rfl (Or.inl rfl)) (pgs_cons (gT_ K (n := 2) rfl (pgs_cons (pg_name (i := 4) sc_moved.nd rfl (Or.inl rfl)) (pgs_cons (pg_name (i := 5) sc_moved.nd rfl (Or.inl rfl)) pgs_nil))) pgs_nil)))) (fun _ _ _ _ _ => (pts_one (pt_cmpR op_ne (pv 4) (pv 5) (nomark _)))) (fun _ _ _ _ _ => (pv 3))) pa_nil)))), sd_ret (ev_tupL (ea_cons (ev_lc (a.zip b).zipIdx (fun p => .tup [.int (p.2 : Nat), .tup [.int ((p.1.1 : Nat) : Int), .int ((p.1.2 : Nat) : Int)]]) (fun p => [some x, some (nats a), some (nats b), some (.int (p.2 : Nat)), some (.int ((p.1.1 : Nat) : Int)), some (.int ((p.1.2 : Nat) : Int))])
    (fun p => !decide (p.1.1 = p.1.2)) (fun p => .int (p.2 : Nat)) ?_ ?_ (IvP.is (iv_enumZ (ea_cons (ev_var rfl) (ea_cons (ev_var rfl) ea_nil))) ?_) (fun p hp => gd_tup (gs_cons (gd_name (by decide)) (gs_cons (gd_tup (gs_cons (gd_name (by decide)) (gs_cons (gd_name (by decide)) gs_nil)) rfl) gs_nil)) rfl)
    (fun p hp => et_test (EvP.is (ev_neI (ev_var rfl) (ev_var rfl)) ?_)) fun p hp _ => ev_var rfl) ea_nil))⟩
  · unfold movedN
    rw [List.map_map]
    rfl
  · rw [List.length_zipIdx, List.length_zip]
    omega
  · rw [zip_map, enum_map]
  · congr 2
    by_cases h : p.1.1 = p.1.2
    · rw [decide_eq_true h, decide_eq_true (by rw [h])]
    · rw [decide_eq_false h, decide_eq_false (by omega)]

/-! ### the law's own sums -/
def FExact (ds : List D) (d : D) : Prop := ∃ (L : Lay) (W : Nat) (g : List Nat) (wd : Nat), ds = [L.d, nats g, .int (wd : Int)] ∧ L.Ok W ∧ (∀ p ∈ g, p < L.rows.length) ∧ g.length ≤ 100 ∧ wd ≤ W ∧ d = .int (exactAt L g wd)
theorem sc_law_exact : FnScope ["_law_layout", "_law_group", "_law_width", "_law_pane"] ["_law_layout", "_law_group", "_law_width"] (defScope (top 36)) := ⟨rfl, rfl, rfl, by decide +kernel, rfl, by decide +kernel, by decide +kernel⟩
theorem ok_law_exact (T : Txt mg) {f : Addr} {fd : FuncData} (Fn : Fun K "_law_exact" "_law_exact" (top 36) f fd) : FnOk P w K mg base (L2.CX P w) 1 f fd ["_law_layout", "_law_group", "_law_width"] (SpR FExact) := by
  refine ok_imm (k := 0) Fn sc_law_exact (fun ds d ⟨L, W, g, wd, e, _, _, _, _, ed⟩ => by subst e ed; exact ⟨rfl, .int _⟩) fun cdv A outer s H E ds d hr ⟨L, W, g, wd, e, hL, hg, hgl, hw, ed⟩ => ?_
  subst e ed
  refine ⟨_, (pss_one (ps_ret (pe_callB (sum_ K rfl) (by rfl) T.sum_ bt_sum (pa_cons (pe_lc (own := [("_law_pane", 3)]) rfl sc_law_exact.nd (iT_ K (pv 1)) (blkOk_by (by rfl)) (fun _ _ _ _ _ => (pg_name (i := 3) sc_law_exact.nd rfl (Or.inl rfl))) (fun _ _ _ _ _ => pts_nil) (fun _ _ _ _ _ => (pe_ix (ixT_ K) (pe_ix (ixT_ K) (pe_ix (ixT_ K) (pv 0) pe_int (fun _ _ => rfl)) (pv 3) (fun _ _ => rfl)) (pv 2) (fun _ _ => rfl)))) pa_nil)))), sd_ret (ev_sum (ns := g.map fun p => (L.rows.getD p []).getD wd 0) (ea_cons (ev_lcA g (fun (n : Nat) => .int (n : Int)) (fun n => [some L.d, some (nats g), some (.int (wd : Int)), some (.int (n : Int))]) (fun p => .int ((L.rows.getD p []).getD wd 0)) (by rw [List.map_map]; rfl) (by omega) (iv_tup (ev_var rfl)) (fun x hx => gd_1) fun x hx => ?_) ea_nil))⟩
  obtain ⟨a1, a2⟩ := rows_at hL (hg x hx) hw
  exact ev_ixT (ev_ixT (ev_ixT (ev_var rfl) ev_int rfl) (ev_var rfl) a1) (ev_var rfl) a2

/-- the running counts of the panes of a group -/
def rowOf (d g : List Nat) : List Int := d.foldl (fun acc p => acc ++ [acc.getLastD 0 + (if p ∈ g then 1 else 0)]) [0]
/-- how far a row of counts is off -/
def rowOff (L : Lay) (g : List Nat) (r : List Int) : Int := maxZ (r.zipIdx.map fun p => offAt L g p.2 p.1)
def FRowOff (ds : List D) (d : D) : Prop := ∃ (L : Lay) (W : Nat) (g : List Nat) (r : List Int), ds = [L.d, nats g, keyD r] ∧ L.Ok W ∧ (∀ p ∈ g, p < L.rows.length) ∧ g.length ≤ 100 ∧ r.length ≤ W + 1 ∧ r ≠ [] ∧ d = .int (rowOff L g r)
theorem sc_law_row_off : FnScope ["_law_layout", "_law_group", "_law_row_here", "_law_width", "_law_many"] ["_law_layout", "_law_group", "_law_row_here"] (defScope (top 38)) := ⟨rfl, rfl, rfl, by decide +kernel, rfl, by decide +kernel, by decide +kernel⟩
theorem ok_law_row_off (T : Txt mg) (h_law_exact : Has P w K mg base "_law_exact" ["_law_layout", "_law_group", "_law_width"] 1 (SpR FExact)) {f : Addr} {fd : FuncData} (Fn : Fun K "_law_row_off" "_law_row_off" (top 38) f fd) : FnOk P w K mg base (L2.CX P w) 2 f fd ["_law_layout", "_law_group", "_law_row_here"] (SpR FRowOff) := by
  refine ok_imm (k := 1) Fn sc_law_row_off (fun ds d ⟨L, W, g, r, e, _, _, _, _, _, ed⟩ => by subst e ed; exact ⟨rfl, .int _⟩) fun cdv A outer s H E ds d hr ⟨L, W, g, r, e, hL, hg, hgl, hw, hne, ed⟩ => ?_
  subst e ed
  have hr_law_exact := hr
  have p0 := hL.p0
  have p1 := hL.p1
  refine ⟨_, (pss_one (ps_ret (pe_callB (max_ K rfl) (by rfl) T.max_ bt_max (pa_cons (pe_lc (own := [("_law_width", 3), ("_law_many", 4)]) rfl sc_law_row_off.nd (eT_ K (by rfl) T.enumerate_ (pa_cons (pv 2) pa_nil)) (blkOk_by (by rfl)) (fun _ _ _ _ _ => (gT_ K (n := 2) rfl (pgs_cons (pg_name (i := 3) sc_law_row_off.nd rfl (Or.inl rfl)) (pgs_cons (pg_name (i := 4) sc_law_row_off.nd rfl (Or.inl rfl)) pgs_nil)))) (fun _ _ _ _ _ => pts_nil) (fun _ _ _ _ _ => (pe_callB call_abs (by rfl) T.abs_ bt_abs (pa_cons (pe_op op_sub (pe_op op_mul (pv 4) (pe_ix (ixT_ K) (pv 0) pe_int (fun _ _ => rfl))) (pe_has h_law_exact hr_law_exact (by rfl) (pa_cons (pv 0) (pa_cons (pv 1) (pa_cons (pv 3) pa_nil))) pass0)) pa_nil)))) pa_nil)))), sd_ret (ev_maxL (ns := r.zipIdx.map fun p => offAt L g p.2 p.1) (ea_cons (ev_lcA r.zipIdx (fun p => .tup [.int (p.2 : Nat), .int p.1]) (fun p => [some L.d, some (nats g), some (keyD r), some (.int (p.2 : Nat)), some (.int p.1)]) (fun p => .int (offAt L g p.2 p.1)) (by rw [List.map_map]; rfl) ?_
    (IvP.is (iv_enumT (ea_cons (ev_var rfl) ea_nil)) (enum_map _ _)) (fun p hp => gd_tup (gs_cons (gd_name (by decide)) (gs_cons (gd_name (by decide)) gs_nil)) rfl) fun p hp => ?_) ea_nil) ?_)⟩
  · have := hL.w1
    rw [List.length_zipIdx]
    omega
  · have hp2 : p.2 < r.length := by
      have := List.snd_lt_of_mem_zipIdx hp
      omega
    exact ev_abs (ea_cons (ev_sub (ev_mul (ev_var rfl) (ev_ixT (ev_var rfl) ev_int rfl) (cmul_r (by omega) (by omega))) (ev_call (F := FExact) (ea_cons (ev_var rfl) (ea_cons (ev_var rfl) (ea_cons (ev_var rfl) ea_nil))) ⟨L, W, g, p.2, rfl, hL, hg, hgl, by omega, rfl⟩)) ea_nil)
  · intro z
    apply hne
    have := congrArg List.length z
    rw [List.length_map, List.length_zipIdx] at this
    exact List.eq_nil_of_length_eq_zero this

/-! ### the law's moves -/
def moveN (a b : List Nat) : List Nat := (List.range a.length).filter fun k => !decide (a.getD k 0 = b.getD k 0)
def natsL (l : List Nat) : D := .lst (l.map fun (n : Nat) => D.int (n : Int))
def FMove (ds : List D) (d : D) : Prop := ∃ (a b : List Nat), ds = [nats a, nats b] ∧ a.length = b.length ∧ a.length ≤ 1000 ∧ d = natsL (moveN a b)
theorem sc_law_move : FnScope ["_law_one", "_law_other", "_law_k"] ["_law_one", "_law_other"] (defScope (top 44)) := ⟨rfl, rfl, rfl, by decide +kernel, rfl, by decide +kernel, by decide +kernel⟩
theorem ok_law_move (T : Txt mg) {f : Addr} {fd : FuncData} (Fn : Fun K "_law_move" "_law_move" (top 44) f fd) : FnOk P w K mg base (L2.CX P w) 1 f fd ["_law_one", "_law_other"] (SpR FMove) := by
  refine ok_new (k := 0) Fn sc_law_move (fun ds d ⟨a, b, e, _, _, ed⟩ => by
    subst e ed
    exact ⟨rfl, fun x hx => by
      rcases List.mem_cons.mp hx with rfl | hx
      · exact nats_imm _
      · rw [List.mem_singleton.mp hx]; exact nats_imm _⟩) fun cdv A outer s H E ds d hr ⟨a, b, e, hl, h1, ed⟩ => ?_
  subst e ed
  refine ⟨_, (pss_one (ps_ret (pe_lc (own := [("_law_k", 2)]) rfl sc_law_move.nd (pi_range1 (by rfl) T.range_ (pa_cons (pe_callB (len_ K) (by rfl) T.len_ bt_len (pa_cons (pv 0) pa_nil)) pa_nil)) (blkOk_by (by rfl)) (fun _ _ _ _ _ => (pg_name (i := 2) sc_law_move.nd rfl (Or.inl rfl))) (fun _ _ _ _ _ => (pts_one (pt_cmpR op_ne (pe_ix (ixT_ K) (pv 0) (pv 2) (fun _ _ => rfl)) (pe_ix (ixT_ K) (pv 1) (pv 2) (fun _ _ => rfl)) (nomark _)))) (fun _ _ _ _ _ => (pv 2))))), sd_ret (ev_lc (List.range a.length) (fun (i : Nat) => .int (i : Int)) (fun i => [some (nats a), some (nats b), some (.int (i : Nat))]) (fun k => !decide (a.getD k 0 = b.getD k 0)) (fun (i : Nat) => .int (i : Int)) rfl (by simp; omega) (IvP.is (iv_rng1 (ea_cons (ev_lenT (ea_cons (ev_var rfl) ea_nil)) ea_nil) (n := a.length) (by simp) (by simp; omega)) (rng0 _)) (fun x hx => gd_1)
    (fun i hi => ?_) fun i hi _ => ev_var rfl)⟩
  have hi' : i < a.length := List.mem_range.mp hi
  refine et_test (EvP.is (ev_neI (ev_ixT (ev_var rfl) (ev_var rfl) (atI_mapN 0 hi')) (ev_ixT (ev_var rfl) (ev_var rfl) (atI_mapN 0 (by omega)))) ?_)
  congr 2
  by_cases h : a.getD i 0 = b.getD i 0
  · rw [decide_eq_true h, decide_eq_true (by rw [h])]
  · rw [decide_eq_false h, decide_eq_false (by omega)]
end
end SP
set_option Elab.async false
set_option linter.all false
set_option maxRecDepth 100000
set_option maxHeartbeats 1000000
/-! Stillpanes: the law's rows of counts, what it keeps. -/
namespace SP
open PySem L2 PySem.Spec PyProof.Rows
theorem nats_key (g : List Nat) : nats g = .tup ((g.map fun (n : Nat) => (n : Int)).map D.int) := by
  unfold nats
  rw [List.map_map]
  rfl
theorem mem_cast {g : List Nat} {p : Nat} : decide ((p : Int) ∈ g.map fun (n : Nat) => (n : Int)) = decide (p ∈ g) := by
  by_cases h : p ∈ g
  · rw [decide_eq_true h, decide_eq_true (List.mem_map.mpr ⟨p, h, rfl⟩)]
  · rw [decide_eq_false h, decide_eq_false]
    rintro z
    obtain ⟨q, hq, e⟩ := List.mem_map.mp z
    have : q = p := by omega
    exact h (this ▸ hq)
theorem rowOf_snoc (d g : List Nat) (p : Nat) : rowOf (d ++ [p]) g = rowOf d g ++ [(rowOf d g).getLastD 0 + (if p ∈ g then 1 else 0)] := by
  unfold rowOf
  rw [List.foldl_append]
  rfl
theorem rowOf_len (d g : List Nat) : (rowOf d g).length = d.length + 1 := by
  have : ∀ (d : List Nat) (acc : List Int), (d.foldl (fun acc p => acc ++ [acc.getLastD 0 + (if p ∈ g then 1 else 0)]) acc).length = acc.length + d.length := by
    intro d
    induction d with
    | nil => intro acc; rfl
    | cons p d ih =>
      intro acc
      rw [List.foldl_cons, ih, List.length_append, List.length_cons]
      simp
      omega
  unfold rowOf
  rw [this]
  simp
  omega
section
variable {P : Program} {w : World} {K : PySem.W.Frag} {mg : Str → Option Value} {base : Heap}
def FRow (ds : List D) (d : D) : Prop := ∃ (a g : List Nat), ds = [nats a, nats g] ∧ a.length ≤ 100 ∧ d = keyD (rowOf a g)
theorem sc_law_row : FnScope ["_law_drawing", "_law_group", "_law_found", "_law_pane"] ["_law_drawing", "_law_group"] (defScope (top 37)) := ⟨rfl, rfl, rfl, by decide +kernel, rfl, by decide +kernel, by decide +kernel⟩
theorem ok_law_row (T : Txt mg) {f : Addr} {fd : FuncData} (Fn : Fun K "_law_row" "_law_row" (top 37) f fd) : FnOk P w K mg base (L2.CX P w) 1 f fd ["_law_drawing", "_law_group"] (SpR FRow) := by
  refine ok_own (k := 0) Fn sc_law_row (fun ds d ⟨a, g, e, _, ed⟩ => by
    subst e ed
    exact ⟨rfl, fun x hx => by
      rcases List.mem_cons.mp hx with rfl | hx
      · exact nats_imm _
      · rw [List.mem_singleton.mp hx]; exact nats_imm _⟩) fun cdv A outer s H E ds d hr ⟨a, g, e, h1, ed⟩ => ?_
  subst e ed
  refine ⟨_, (pss_cons (ps_set (i := 2) sc_law_row.nd rfl (Or.inl rfl) (pe_lst (pa_cons pe_int pa_nil)))
      (pss_cons (ps_for (passes_of rfl) rfl (iT_ K (pv 0)) (pg_name (i := 3) sc_law_row.nd rfl (Or.inl rfl))
      (pss_one (ps_expr (pe_bm PySem.F.plainAttrs_list PySem.F.slot_list_append PySem.F.type_list_append mt_append (pv 2) (pa_cons (pe_op op_add (pe_ix (ixL_ K) (pv 2) (pe_un un_neg pe_int) (fun _ _ => rfl)) (pe_callTy call_int1 (by rfl) T.int_ bt_int (pa_cons (pe_cmpR (inS_ K) (pv 3) (pv 1) rfl) pa_nil))) pa_nil)))))
      (pss_one (ps_ret (pe_callTy (tup_ K) (by rfl) T.tuple_ bt_tuple (pa_cons (pv 2) pa_nil)))))), fun σ Dn a0 q => ?_⟩
  refine tseq_ (a0.newLs (ds := [.int 0]) (ea_cons ev_int ea_nil) (by simp) fun p vs H1 e hn hp h0 a1 r => ?_)
  obtain ⟨v, rfl, rv⟩ := r.one_
  cases rv.int_
  refine tseq_ (a1.for_ (fun i C ps => C p = some (.lst ((rowOf (a.take i) g).map V.int)) ∧ ps = [some (nats a), some (nats g), some (.adr p), none]) (iv_tup (ev_var rfl)) ⟨upd_same, rfl⟩ (fun H2 i d σ' H' v C' ps' e1 hd e2 a2 ⟨hc, hp'⟩ r => ?_) fun σ' H' C' ps' e2 a2 ⟨hc, hp'⟩ => ?_)
  · subst hp'
    rw [List.getElem?_map] at hd
    obtain ⟨y, hy, rfl⟩ := Option.map_eq_some_iff.mp hd
    have hyl := (List.getElem?_eq_some_iff.mp hy).1
    refine a2.gd gd_1 r fun σ2 a3 => ?_
    have hlen : (rowOf (a.take i) g).length ≤ 101 := by
      rw [rowOf_len, List.length_take]
      omega
    have hne : rowOf (a.take i) g ≠ [] := fun z => by
      have := rowOf_len (a.take i) g
      rw [z] at this
      simp at this
    have hlast : atI ((rowOf (a.take i) g).map V.int) (-1) = some (.int ((rowOf (a.take i) g).getLastD 0)) := by
      obtain ⟨l, z, hz⟩ : ∃ l z, rowOf (a.take i) g = l ++ [z] := ⟨_, _, (List.dropLast_concat_getLast hne).symm⟩
      rw [hz, List.map_append]
      show atI (l.map V.int ++ [V.int z]) (-1) = _
      rw [atI_last]
      simp
    refine a3.append (p := p) rfl (List.mem_singleton.mpr rfl) hc (by rw [List.length_map]; omega) (evx_add (evx_ixO (List.mem_singleton.mpr rfl) hc (ev_var rfl) (ev_neg ev_int) hlast) (EvP.x (ev_intB (ea_cons (ev_inT (ns := g.map fun (n : Nat) => (n : Int)) (ev_var rfl) (EvP.is (ev_var rfl) (nats_key g))) ea_nil)))) hc fun v H3 e3 a4 r4 => ?_
    refine ⟨e2.trans e3, _, _, a4.fgt [3] rfl, ?_, rfl⟩
    rw [upd_same, r4.int_]
    have ht : a.take (i + 1) = a.take i ++ [y] := by
      rw [List.take_add_one, hy]
      rfl
    rw [ht, rowOf_snoc, List.map_append, mem_cast]
    simp
  · subst hp'
    rw [List.length_map, List.take_length] at hc
    refine a2.ev (evx_tupO (List.mem_singleton.mpr rfl) hc (ea_cons (ev_var rfl) ea_nil) fun G => rl_ints _) fun v H3 e3 a3 r => ?_
    exact q v H3 (a3.sameN fun c m => by rw [List.mem_singleton.mp m]; exact h0) (a3.immV r (keyD_imm _))

/-! ### keeps -/
def keepsL (L : Lay) (d : List Nat) (ls : List (List Nat × Int)) : Bool := (ls.filter fun l => decide (l.2 < rowOff L l.1 (rowOf d l.1))).isEmpty
def FKeeps (ds : List D) (d : D) : Prop := ∃ (L : Lay) (W : Nat) (a : List Nat) (ls : List (List Nat × Int)), ds = [L.d, nats a, limsD ls] ∧ L.Ok W ∧ LimsOk L ls ∧ a.length ≤ W ∧ d = .bl (keepsL L a ls)
theorem sc_law_keeps : FnScope ["_law_layout", "_law_drawing", "_law_limits", "_law_own"] ["_law_layout", "_law_drawing", "_law_limits"] (defScope (top 40)) := ⟨rfl, rfl, rfl, by decide +kernel, rfl, by decide +kernel, by decide +kernel⟩
theorem ok_law_keeps (T : Txt mg) (h_law_row : Has P w K mg base "_law_row" ["_law_drawing", "_law_group"] 1 (SpR FRow)) (h_law_row_off : Has P w K mg base "_law_row_off" ["_law_layout", "_law_group", "_law_row_here"] 2 (SpR FRowOff)) {f : Addr} {fd : FuncData} (Fn : Fun K "_law_keeps" "_law_keeps" (top 40) f fd) : FnOk P w K mg base (L2.CX P w) 3 f fd ["_law_layout", "_law_drawing", "_law_limits"] (SpR FKeeps) := by
  refine ok_imm (k := 2) Fn sc_law_keeps (fun ds d ⟨L, W, a, ls, e, _, _, _, ed⟩ => by subst e ed; exact ⟨rfl, .bl _⟩) fun cdv A outer s H E ds d hr ⟨L, W, a, ls, e, hL, hl, hw, ed⟩ => ?_
  subst e ed
  have hr_law_row := hr.mono (by decide : 1 ≤ 2)
  have hr_law_row_off := hr
  have hu64 := un_of (n := 64) hr
  refine ⟨_, (pss_one (ps_ret (pe_cmpR (eqD_ K hu64) (pe_lc (own := [("_law_own", 3)]) rfl sc_law_keeps.nd (iT_ K (pv 2)) (blkOk_by (by rfl)) (fun _ _ _ _ _ => (pg_name (i := 3) sc_law_keeps.nd rfl (Or.inl rfl))) (fun _ _ _ _ _ => (pts_one (pt_cmpR op_gt (pe_has h_law_row_off hr_law_row_off (by rfl) (pa_cons (pv 0) (pa_cons (pe_ix (ixT_ K) (pv 3) pe_int (fun _ _ => rfl)) (pa_cons (pe_has h_law_row hr_law_row (by rfl) (pa_cons (pv 1) (pa_cons (pe_ix (ixT_ K) (pv 3) pe_int (fun _ _ => rfl)) pa_nil)) pass0) pa_nil))) pass0) (pe_ix (ixT_ K) (pv 3) pe_int (fun _ _ => rfl)) (nomark _)))) (fun _ _ _ _ _ => (pv 3))) (pe_lst pa_nil) (nomark _)))), sd_ret (EvP.is (ev_eqNil (n := 2) (ev_lc ls limD (fun l => [some L.d, some (nats a), some (limsD ls), some (limD l)]) (fun l => decide (l.2 < rowOff L l.1 (rowOf a l.1))) limD rfl (by have := hl.l1; omega) (iv_tup (ev_var rfl)) (fun x hx => gd_1) (fun l hl' => ?_) fun l hl' _ => ev_var rfl) fun d hd => ?_) ?_)⟩
  · refine et_test (ev_gt (ev_call (F := FRowOff) (ea_cons (ev_var rfl) (ea_cons (ev_ixT (ev_var rfl) ev_int rfl) (ea_cons (ev_call (F := FRow) (ea_cons (ev_var rfl) (ea_cons (ev_ixT (ev_var rfl) ev_int rfl) ea_nil)) ⟨a, l.1, rfl, ?_, rfl⟩) ea_nil))) ⟨L, W, l.1, rowOf a l.1, rfl, hL, hl.ix l hl', hl.g1 l hl', ?_, ?_, rfl⟩) (ev_ixT (ev_var rfl) ev_int rfl))
    · have := hL.w1
      omega
    · rw [rowOf_len]
      omega
    · intro z
      have := rowOf_len a l.1
      rw [z] at this
      simp at this
  · obtain ⟨l, _, rfl⟩ := List.mem_map.mp hd
    refine .tup fun d hd => ?_
    rcases List.mem_cons.mp hd with rfl | hd
    · rw [nats_key]; exact sh_key _
    · rw [List.mem_singleton.mp hd]; exact .int _
  · unfold keepsL
    cases ls.filter fun l => decide (l.2 < rowOff L l.1 (rowOf a l.1)) <;> rfl
end
end SP
set_option Elab.async false
set_option linter.all false
set_option maxRecDepth 100000
set_option maxHeartbeats 1000000
/-! Stillpanes: all_states. -/
namespace SP
open PySem L2 PySem.Spec PyProof.Rows
/-- one pane's turn, a state's turns, a width's -/
def addSt (L : Lay) (ls : List (List Nat × Int)) (w : Nat) (later : List (List Int)) (c : List Int) (p : Nat) : List (List Int) :=
  if (!decide (moreZ c p ∈ later) && within L ls w (moreZ c p)) = true then later ++ [moreZ c p] else later
def turnSt (L : Lay) (ls : List (List Nat × Int)) (w : Nat) (later : List (List Int)) (c : List Int) : List (List Int) := (List.range L.rows.length).foldl (fun later p => addSt L ls w later c p) later
def stepSt (L : Lay) (ls : List (List Nat × Int)) (w : Nat) (st : List (List Int)) : List (List Int) := st.foldl (turnSt L ls w) []
def stAt (L : Lay) (ls : List (List Nat × Int)) : Nat → List (List Int)
  | 0 => [List.replicate L.rows.length 0]
  | w + 1 => stepSt L ls (w + 1) (stAt L ls w)
theorem addSt_mem {L : Lay} {ls : List (List Nat × Int)} {w : Nat} {later : List (List Int)} {c : List Int} {p : Nat} {x : List Int} (h : x ∈ addSt L ls w later c p) : x ∈ later ∨ x = moreZ c p := by
  unfold addSt at h
  split at h
  · rcases List.mem_append.mp h with h | h
    · exact .inl h
    · exact .inr (List.mem_singleton.mp h)
  · exact .inl h
theorem addSt_len {L : Lay} {ls : List (List Nat × Int)} {w : Nat} {later : List (List Int)} {c : List Int} {p : Nat} : (addSt L ls w later c p).length ≤ later.length + 1 := by
  unfold addSt
  split
  · simp
  · omega
theorem turnSt_all {L : Lay} {ls : List (List Nat × Int)} {w n : Nat} {c : List Int} (hc : c.length = n) : ∀ (ps : List Nat) (later : List (List Int)), (∀ x ∈ later, x.length = n) → (∀ x ∈ ps.foldl (fun later p => addSt L ls w later c p) later, x.length = n) ∧ (ps.foldl (fun later p => addSt L ls w later c p) later).length ≤ later.length + ps.length
  | [], later, h => ⟨h, by simp⟩
  | p :: ps, later, h => by
    obtain ⟨h1, h2⟩ := turnSt_all (ls := ls) (w := w) hc ps (addSt L ls w later c p) fun x hx => by
      rcases addSt_mem hx with hx | rfl
      · exact h x hx
      · rw [moreZ_len]; exact hc
    refine ⟨h1, Nat.le_trans h2 ?_⟩
    have := addSt_len (L := L) (ls := ls) (w := w) (later := later) (c := c) (p := p)
    rw [List.length_cons]
    omega
theorem stepSt_all {L : Lay} {ls : List (List Nat × Int)} {w n : Nat} : ∀ (st later : List (List Int)), (∀ x ∈ st, x.length = n) → (∀ x ∈ later, x.length = n) → (∀ x ∈ st.foldl (turnSt L ls w) later, x.length = n) ∧ (st.foldl (turnSt L ls w) later).length ≤ later.length + st.length * L.rows.length
  | [], later, _, h => ⟨h, by simp⟩
  | c :: st, later, hs, h => by
    obtain ⟨g1, g2⟩ := turnSt_all (L := L) (ls := ls) (w := w) (hs c (List.mem_cons_self ..)) (List.range L.rows.length) later h
    obtain ⟨h1, h2⟩ := stepSt_all (w := w) st (turnSt L ls w later c) (fun x hx => hs x (List.mem_cons_of_mem _ hx)) g1
    refine ⟨h1, Nat.le_trans h2 ?_⟩
    unfold turnSt
    rw [List.length_range] at g2
    rw [List.length_cons, Nat.add_mul]
    omega
theorem stAt_len {L : Lay} {ls : List (List Nat × Int)} : ∀ w, ∀ x ∈ stAt L ls w, x.length = L.rows.length
  | 0, x, hx => by
    rw [List.mem_singleton.mp hx]
    simp
  | w + 1, x, hx => (stepSt_all (stAt L ls w) [] (stAt_len w) (fun _ z => nomatch z)).1 x hx
/-- what stands in the list of states behind the width i -/
def FoundB (L : Lay) (ls : List (List Nat × Int)) (n : Nat) (G : Hp) (xs : List V) : Prop := xs.length = n ∧ ∀ j, j < n → ∃ a, xs[j]? = some (.ref a) ∧ G a = some (.dT (kvB (stAt L ls j)))
theorem FoundB.mono {L : Lay} {ls : List (List Nat × Int)} {n : Nat} {G G' : Hp} {xs : List V} (h : FoundB L ls n G xs) (s : Sub G G') : FoundB L ls n G' xs := ⟨h.1, fun j hj => let ⟨a, h1, h2⟩ := h.2 j hj; ⟨a, h1, s _ _ h2⟩⟩
theorem FoundB.rl {L : Lay} {ls : List (List Nat × Int)} {b : Bool} {G : Hp} : ∀ {n : Nat} {xs : List V}, FoundB L ls n G xs → RL b G xs ((List.range n).map fun w => .dct (dB (stAt L ls w)))
  | 0, xs, h => by
    have : xs = [] := List.eq_nil_of_length_eq_zero h.1
    subst this
    exact .nil
  | n + 1, xs, h => by
    have hne : xs ≠ [] := fun z => by
      have := h.1
      rw [z] at this
      simp at this
    have hx : xs = xs.dropLast ++ [xs.getLast hne] := (List.dropLast_concat_getLast hne).symm
    have hl : xs.dropLast.length = n := by rw [List.length_dropLast, h.1]; rfl
    have h' : FoundB L ls n G xs.dropLast := ⟨hl, fun j hj => by
      obtain ⟨a, h1, h2⟩ := h.2 j (by omega)
      refine ⟨a, ?_, h2⟩
      rw [hx, List.getElem?_append_left (by omega)] at h1
      exact h1⟩
    obtain ⟨a, h1, h2⟩ := h.2 n (by omega)
    rw [hx, List.getElem?_append_right (by omega), hl] at h1
    have h1 : xs.getLast hne = .ref a := by simpa using h1
    rw [List.range_succ, List.map_append, hx, h1]
    exact h'.rl.append (.one (dctB_to h2))
section
variable {P : Program} {w : World} {K : PySem.W.Frag} {mg : Str → Option Value} {base : Heap}
def FAll (ds : List D) (d : D) : Prop := ∃ (L : Lay) (W : Nat) (ls : List (List Nat × Int)), ds = [L.d, limsD ls] ∧ L.Ok W ∧ LimsOk L ls ∧ (∀ j, j ≤ W → (stAt L ls j).length ≤ 4000) ∧ d = .lst ((List.range (W + 1)).map fun w => .dct (dB (stAt L ls w)))
theorem imm2 {a b : D} (ha : Imm a) (hb : Imm b) : ∀ x ∈ [a, b], Imm x := fun x hx => by
  rcases List.mem_cons.mp hx with rfl | hx
  · exact ha
  · rw [List.mem_singleton.mp hx]; exact hb
theorem imm3 {a b c : D} (ha : Imm a) (hb : Imm b) (hc : Imm c) : ∀ x ∈ [a, b, c], Imm x := fun x hx => by
  rcases List.mem_cons.mp hx with rfl | hx
  · exact ha
  · exact imm2 hb hc x hx
theorem rep_zero (n : Nat) : (List.replicate n [D.int 0]).flatten = (List.replicate n (0 : Int)).map D.int := by
  induction n with
  | zero => rfl
  | succ n ih => rw [List.replicate_succ, List.flatten_cons, ih, List.replicate_succ]; rfl
/-- (0,) * len(layout[1]) -/
theorem ev_zeros {L : Lay} {W : Nat} (hL : L.Ok W) {b : Bool} {ps : Ds} {te : TE} (h : EvP b ps te (.int (L.rows.length : Nat))) : EvP b ps (tOp (rRepT K) (tTup (tCons (tC (.int 0)) tNil)) te) (keyD (List.replicate L.rows.length 0)) := by
  have h0 := hL.n0
  have h1 := hL.n1
  refine EvP.is (ev_repT (ev_tup (ea_cons ev_int ea_nil) (by simp)) h (by simp) (by omega) (by omega) (by simp)) ?_
  rw [Int.toNat_natCast, rep_zero]
  rfl
theorem ev_many {L : Lay} {b : Bool} {ps : Ds} {te : TE} (h : EvP b ps te L.d) : EvP b ps (tCB (rLenQ K) (tCons (tOp (rIxT K) te (tC (.int 1))) tNil)) (.int (L.rows.length : Nat)) :=
  EvP.is (ev_lenT (ea_cons (ev_ixT h ev_int rfl) ea_nil)) (by rw [List.length_map])
theorem sc_all_states : FnScope ["layout", "limits", "many", "found", "width", "later", "counts", "pane", "now"] ["layout", "limits"] (defScope (top 12)) := ⟨rfl, rfl, rfl, by decide +kernel, rfl, by decide +kernel, by decide +kernel⟩
theorem ok_all_states (T : Txt mg) (h_counts_more : Has P w K mg base "counts_more" ["counts", "pane"] 1 (SpR FMore)) (h_is_within : Has P w K mg base "is_within" ["layout", "limits", "width", "counts"] 1 (SpR FWithin)) {f : Addr} {fd : FuncData} (Fn : Fun K "all_states" "all_states" (top 12) f fd) : FnOk P w K mg base (L2.CX P w) 2 f fd ["layout", "limits"] (SpR FAll) := by
  refine ok_own (k := 1) Fn sc_all_states (fun ds d ⟨L, W, ls, e, _, _, _, ed⟩ => by subst e ed; exact ⟨rfl, imm2 L.imm (limsD_imm ls)⟩) fun cdv A outer s H E ds d hr ⟨L, W, ls, e, hL, hl, h4, ed⟩ => ?_
  subst e ed
  have hr_counts_more := hr
  have hr_is_within := hr
  have hu1 := un_of (n := 1) hr
  have hu4 := un_of (n := 4) hr
  have n0 := hL.n0
  have n1 := hL.n1
  have w1 := hL.w1
  refine ⟨_, (pss_cons (ps_par (i := 2) (j := 3) rfl sc_all_states.nd rfl rfl (by decide) rfl rfl (pa_cons (pe_callB (len_ K) (by rfl) T.len_ bt_len (pa_cons (pe_ix (ixT_ K) (pv 0) pe_int (fun _ _ => rfl)) pa_nil)) (pa_cons (pe_lst (pa_cons (pe_dispT hu4 (pe_op (repT_ K) (pe_tup (pa_cons pe_int pa_nil)) (pe_callB (len_ K) (by rfl) T.len_ bt_len (pa_cons (pe_ix (ixT_ K) (pv 0) pe_int (fun _ _ => rfl)) pa_nil))) pe_bl) pa_nil)) pa_nil)) rfl)
      (pss_cons (ps_for (passes_of rfl) rfl (pi_range2 (by rfl) T.range_ (pa_cons pe_int (pa_cons (pe_callB (len_ K) (by rfl) T.len_ bt_len (pa_cons (pe_ix (ixT_ K) (pe_ix (ixT_ K) (pv 0) pe_int (fun _ _ => rfl)) pe_int (fun _ _ => rfl)) pa_nil)) pa_nil))) (pg_name (i := 4) sc_all_states.nd rfl (Or.inl rfl))
      (pss_cons (ps_set (i := 5) sc_all_states.nd rfl (Or.inl rfl) pe_dnewT)
      (pss_cons (ps_lock (ps_for (passes_of rfl) rfl (pi_keys (pe_ix (ixL_ K) (pv 3) (pe_un un_neg pe_int) (fun _ _ => rfl))) (pg_name (i := 6) sc_all_states.nd rfl (Or.inl rfl))
      (pss_one (ps_for (passes_of rfl) rfl (pi_range1 (by rfl) T.range_ (pa_cons (pv 2) pa_nil)) (pg_name (i := 7) sc_all_states.nd rfl (Or.inl rfl))
      (pss_cons (ps_set (i := 8) sc_all_states.nd rfl (Or.inl rfl) (pe_has h_counts_more hr_counts_more (by rfl) (pa_cons (pv 6) (pa_cons (pv 7) pa_nil)) pass0))
      (pss_one (ps_if (PW.pt (pw_and (pt_cmp (pc_dnotin hu1 (pv 8) (pv 5))) (pw_and1 (pt_val (pe_has h_is_within hr_is_within (by rfl) (pa_cons (pv 0) (pa_cons (pv 1) (pa_cons (pv 4) (pa_cons (pv 8) pa_nil)))) pass0)))))
      (pss_one (ps_dput hu1 (pv 5) (pv 8) pe_bl rfl))
      pss_nil)))))))
      (pss_cons (ps_if (pt_cmpR op_gt (pe_callB call_len_dT (by rfl) T.len_ bt_len (pa_cons (pv 5) pa_nil)) (pe_most T) (nomark _))
      (pss_one ps_never)
      pss_nil)
      (pss_one (ps_expr (pe_bm PySem.F.plainAttrs_list PySem.F.slot_list_append PySem.F.type_list_append mt_append (pv 3) (pa_cons (pv 5) pa_nil))))))))
      (pss_one (ps_ret (pv 3))))), fun σ Dn a0 fin => ?_⟩
  refine tseq_ (a0.eaP (ea_cons (ev_many (ev_var rfl)) (ea_cons (ev_lst (ea_cons (ev_dispT (ev_zeros hL (ev_many (ev_var rfl))) ev_bl) ea_nil) (by simp)) ea_nil)) fun vs H1 e1 a1 r => ?_)
  obtain ⟨v, w', rfl, rv, rw'⟩ := r.two_
  refine ⟨v, w', rfl, ?_⟩
  obtain ⟨q, xs, rfl, eq, rl⟩ := R.lst_ rw'
  have hq0 : H q = none := gx_new eq trivial
  obtain ⟨a2, hqA⟩ := ((a1.set 2 rv).set 3 (.adr q)).take eq trivial hq0 (allImm_some L.imm (allImm_some (limsD_imm ls) (allImm_some (.int _) (allImm_some (.adr q) (allImm_none (allImm_none (allImm_none (allImm_none (allImm_none allImm_nil)))))))))
  obtain ⟨x0, rfl, rx0⟩ := rl.one_
  obtain ⟨d0, rfl, ed0⟩ := dctB_of (ks := [List.replicate L.rows.length 0]) rx0
  have hF0 : FoundB L ls 1 (Gx [q] (tups H) H H1) [.ref d0] := ⟨rfl, fun j hj => by
    have : j = 0 := by omega
    subst this
    exact ⟨d0, rfl, gx_take eq _ _ (fun z => by rw [z, eq] at ed0; cases ed0) ed0⟩⟩
  have hlenr : (keyD (L.rows.getD 0 [])) = .tup ((L.rows.getD 0 []).map D.int) := rfl
  refine tseq_ (a2.forG (fun i G C ps => ∃ xs, C q = some (.lst xs) ∧ FoundB L ls (i + 1) G xs ∧ ps = [some L.d, some (limsD ls), some (.int (L.rows.length : Nat)), some (.adr q), none, none, none, none, none]) (fun i G G' C ps ⟨xs, h1, h2, h3⟩ s => ⟨xs, h1, h2.mono s, h3⟩)
    (iv_rng2 (i := 1) (n := W) (ea_cons ev_int (ea_cons (ev_lenT (ea_cons (ev_ixT (ev_ixT (ev_var rfl) ev_int rfl) ev_int (atI_mapN (g := keyD) (l := L.rows) (i := 0) [] (show 0 < L.rows.length by omega))) ea_nil)) ea_nil)) ?_ (by omega) ?_) ⟨_, upd_same, hF0, rfl⟩ (fun H2 i dd σ' H' v' C' ps' f1 hd f2 a3 ⟨xs, hc, hF, hps⟩ r3 => ?_) fun σ' H' C' ps' f1 a3 ⟨xs, hc, hF, hps⟩ => ?_)
  · rw [List.length_map, hL.len 0 (by omega)]
    omega
  · rw [List.length_map, hL.len 0 (by omega)]
    omega
  · -- a width's turn
    subst hps
    have hi : i < W := by
      have := (List.getElem?_eq_some_iff.mp hd).1
      simpa using this
    have hdd : dd = .int (1 + (i : Nat)) := by
      rw [List.getElem?_map, List.getElem?_range hi] at hd
      exact (Option.some.inj hd).symm
    subst hdd
    refine a3.gd gd_1 r3 fun σ2 a4 => ?_
    have hpf : ∀ (p : Addr) (o : HO), H' p = none → Sub (Gx [q] (tups H) H H') (Gx [p, q] (tups H) H (upd H' p o)) := fun p o hp => gx_own a4.gsub hp
    refine tseq_ (fun p hp => ?_)
    obtain ⟨a5', hpA, hp0⟩ := a4.own_ (o := .dT []) hp trivial
    have a5 := a5'.set 5 (.adr p)
    have hF5 := hF.mono (hpf p (.dT []) hp)
    obtain ⟨a, hxa, hGa⟩ := hF5.2 i (by omega)
    have hpq : p ≠ q := fun z => hpA (by rw [z]; exact List.mem_singleton.mpr rfl)
    have hqm : q ∈ [p, q] := by simp
    have hpm : p ∈ [p, q] := by simp
    have haA : a ∉ [p, q] := fun m => by rw [gx_out a m] at hGa; cases hGa
    have ha0 : H a = none := gx_new hGa trivial
    have hcq : (upd C' p (.dT [])) q = some (.lst xs) := by rw [upd_ne hpq.symm]; exact hc
    -- for counts in found[-1], locked
    refine tseq_ (a5.lockFor (d := a) (kvs := kvB (stAt L ls i)) (items := (dB (stAt L ls i)).map fun p => keyD p.1) (fun k C ps => C q = some (.lst xs) ∧ C p = some (.dT (kvB (((stAt L ls i).take k).foldl (turnSt L ls (i + 1)) []))) ∧ ps = [some L.d, some (limsD ls), some (.int (L.rows.length : Nat)), some (.adr q), some (.int (1 + (i : Nat))), some (.adr p), none, none, none])
      ha0 haA (a5.gsub _ _ hGa) (allImm_some L.imm (allImm_some (limsD_imm ls) (allImm_some (.int _) (allImm_some (.adr q) (allImm_some (.int _) (allImm_some (.adr p) (allImm_none (allImm_none (allImm_none allImm_nil))))))))) (fun k C ps ⟨_, _, e⟩ => by
        subst e
        exact allImm_some L.imm (allImm_some (limsD_imm ls) (allImm_some (.int _) (allImm_some (.adr q) (allImm_some (.int _) (allImm_some (.adr p) (allImm_none (allImm_none (allImm_none allImm_nil)))))))))
      (fun od Rr G hG hR => ?_) ⟨hcq, upd_same, rfl⟩ (fun od E2 H3 k x σ3 H4 y C2 ps2 hE hx hsub f3 a6 ⟨g1, g2, g3⟩ r6 => ?_) fun σ3 H4 C2 ps2 f3 a6 ⟨g1, g2, g3⟩ => ?_)
    · -- the source
      obtain ⟨v3, ev3, rv3⟩ := a5.sl.2 3 _ rfl
      cases rv3.adr_
      have hne : a ≠ q := fun z => haA (by rw [z]; exact hqm)
      have hl : (upd (upd H' p (.dT [])) a (.frz od (.dT (kvB (stAt L ls i))))) q = some (.lst xs) := by
        rw [upd_ne hne.symm, a5.own.at hqm]
        exact hcq
      refine ⟨.ref q, ev3, 1, rfl, q, xs, -1, .ref a, rfl, rfl, SqL.of hl, ?_, a, od, rfl, .inr ⟨_, upd_same, hR _ (walk_keys hG (rk_B _))⟩⟩
      have hne0 : xs ≠ [] := fun z => by
        have := hF.1
        rw [z] at this
        simp at this
      obtain ⟨l0, z0, hz0⟩ : ∃ l z, xs = l ++ [z] := ⟨_, _, (List.dropLast_concat_getLast hne0).symm⟩
      have hl0 : l0.length = i := by
        have := hF.1
        rw [hz0, List.length_append] at this
        simpa using this
      rw [hz0, List.getElem?_append_right (by omega), hl0] at hxa
      have : z0 = .ref a := by simpa using hxa
      rw [hz0, this, atI_last]
    · -- a state's turn
      subst g3
      rw [List.getElem?_map] at hx
      obtain ⟨kd, hkd, rfl⟩ := Option.map_eq_some_iff.mp hx
      unfold dB at hkd
      rw [List.getElem?_map] at hkd
      obtain ⟨c, hc', rfl⟩ := Option.map_eq_some_iff.mp hkd
      have hcm : c ∈ stAt L ls i := List.mem_of_getElem? hc'
      have hcl : c.length = L.rows.length := stAt_len i c hcm
      have hk : k < (stAt L ls i).length := (List.getElem?_eq_some_iff.mp hc').1
      have hst4 := h4 i (by omega)
      refine a6.gd gd_1 r6 fun σ5 a7 => ?_
      have hall := stepSt_all (L := L) (ls := ls) (w := i + 1) (n := L.rows.length) ((stAt L ls i).take k) [] (fun x hx => stAt_len i x (List.mem_of_mem_take hx)) (fun _ z => nomatch z)
      have hbase : (((stAt L ls i).take k).foldl (turnSt L ls (i + 1)) []).length ≤ 400000 := by
        refine Nat.le_trans hall.2 ?_
        rw [List.length_take, List.length_nil, Nat.zero_add]
        exact Nat.le_trans (Nat.mul_le_mul (Nat.le_trans (Nat.min_le_right _ _) hst4) n1) (by decide)
      refine a7.for_ (fun m C ps => C q = some (.lst xs) ∧ C p = some (.dT (kvB ((List.range m).foldl (fun later p => addSt L ls (i + 1) later c p) (((stAt L ls i).take k).foldl (turnSt L ls (i + 1)) [])))) ∧ ps = [some L.d, some (limsD ls), some (.int (L.rows.length : Nat)), some (.adr q), some (.int (1 + (i : Nat))), some (.adr p), some (keyD c), none, none])
        (IvP.is (iv_rng1 (n := L.rows.length) (ea_cons (ev_var rfl) ea_nil) (by simp) (by omega)) (rng0 _)) ⟨g1, g2, rfl⟩ (fun H5 m dm σ6 H6 ym C3 ps3 f4 hm f5 a8 ⟨m1, m2, m3⟩ rm => ?_) fun σ6 H6 C3 ps3 f4 a8 ⟨m1, m2, m3⟩ => ?_
      · subst m3
        have hmm : m < L.rows.length := by
          have := (List.getElem?_eq_some_iff.mp hm).1
          simpa using this
        have hdm : dm = .int (m : Nat) := by
          rw [List.getElem?_map, List.getElem?_range hmm] at hm
          exact (Option.some.inj hm).symm
        subst hdm
        have hmA : m ≤ (List.range L.rows.length).length := by rw [List.length_range]; omega
        have hlen := (turnSt_all (L := L) (ls := ls) (w := i + 1) hcl (List.range m) (((stAt L ls i).take k).foldl (turnSt L ls (i + 1)) []) hall.1).2
        rw [List.length_range] at hlen
        refine a8.gd gd_1 rm fun σ7 a9 => ?_
        refine tseq_ (a9.asg (EvP.x (ev_call (F := FMore) (ea_cons (ev_var rfl) (ea_cons (ev_var rfl) ea_nil)) ⟨c, m, rfl, by omega, by omega, rfl⟩)) fun v7 H7 f7 a10 => ?_)
        refine a10.et (etx_and (etx_B (evx_dnotinO hpm m2 (ev_var rfl) (ev_var rfl))) fun _ => (et_B (ev_call (F := FWithin) (ea_cons (ev_var rfl) (ea_cons (ev_var rfl) (ea_cons (ev_var rfl) (ea_cons (ev_var rfl) ea_nil)))) ⟨L, W, ls, i + 1, moreZ c m, ?_, hL, hl, by omega, by rw [moreZ_len]; exact hcl, rfl⟩)).x) fun H8 f8 a11 => ?_
        · have e1 : (1 : Int) + (i : Nat) = ((i + 1 : Nat) : Int) := by omega
          rw [e1]
        rw [valB]
        have hstep : (List.range (m + 1)).foldl (fun later p => addSt L ls (i + 1) later c p) (((stAt L ls i).take k).foldl (turnSt L ls (i + 1)) []) = addSt L ls (i + 1) ((List.range m).foldl (fun later p => addSt L ls (i + 1) later c p) (((stAt L ls i).take k).foldl (turnSt L ls (i + 1)) [])) c m := by
          rw [List.range_succ, List.foldl_append]
          rfl
        have fpre : SameX [p, q] H5 H8 := (f5.trans f7).trans f8
        have hadd : addSt L ls (i + 1) ((List.range m).foldl (fun later p => addSt L ls (i + 1) later c p) (((stAt L ls i).take k).foldl (turnSt L ls (i + 1)) [])) c m = if (!decide (moreZ c m ∈ (List.range m).foldl (fun later p => addSt L ls (i + 1) later c p) (((stAt L ls i).take k).foldl (turnSt L ls (i + 1)) [])) && within L ls (i + 1) (moreZ c m)) = true then ((List.range m).foldl (fun later p => addSt L ls (i + 1) later c p) (((stAt L ls i).take k).foldl (turnSt L ls (i + 1)) [])) ++ [moreZ c m] else (List.range m).foldl (fun later p => addSt L ls (i + 1) later c p) (((stAt L ls i).take k).foldl (turnSt L ls (i + 1)) []) := rfl
        by_cases hb : (!decide (moreZ c m ∈ (List.range m).foldl (fun later p => addSt L ls (i + 1) later c p) (((stAt L ls i).take k).foldl (turnSt L ls (i + 1)) [])) && within L ls (i + 1) (moreZ c m)) = true
        · rw [hb, if_pos rfl]
          rw [if_pos hb] at hadd
          have hnot : moreZ c m ∉ (List.range m).foldl (fun later p => addSt L ls (i + 1) later c p) (((stAt L ls i).take k).foldl (turnSt L ls (i + 1)) []) := fun z => by
            rw [decide_eq_true z] at hb
            cases hb
          refine a11.dput (key := moreZ c m) hpm m2 (by unfold kvB; rw [List.length_map]; omega) ev_bl (ev_var rfl) (ev_var rfl) fun v9 H9 f9 a12 r12 => ?_
          refine ⟨fpre.trans f9, _, _, a12.fgt [7, 8] rfl, ?_, ?_, rfl⟩
          · rw [upd_ne hpq.symm]; exact m1
          · rw [upd_same, r12.bl_, putB hnot, hstep, hadd]
        · have hb' : (!decide (moreZ c m ∈ (List.range m).foldl (fun later p => addSt L ls (i + 1) later c p) (((stAt L ls i).take k).foldl (turnSt L ls (i + 1)) [])) && within L ls (i + 1) (moreZ c m)) = false := by simpa using hb
          rw [hb', if_neg (by decide)]
          rw [if_neg hb] at hadd
          exact ⟨fpre, _, _, a11.fgt [7, 8] rfl, m1, by rw [hstep, hadd]; exact m2, rfl⟩
      · subst m3
        rw [List.length_map, List.length_range] at m2
        rw [hE]
        refine ⟨f3.trans f4, _, _, a8.fgt [6] rfl, m1, ?_, rfl⟩
        have ht : (stAt L ls i).take (k + 1) = (stAt L ls i).take k ++ [c] := by
          rw [List.take_add_one, hc']
          rfl
        rw [ht, List.foldl_append]
        exact m2
    · -- behind the lock
      subst g3
      have hlate : ((stAt L ls i).take ((dB (stAt L ls i)).map fun p => keyD p.1).length).foldl (turnSt L ls (i + 1)) [] = stAt L ls (i + 1) := by
        rw [List.length_map]
        unfold dB
        rw [List.length_map, List.take_length]
        rfl
      rw [hlate] at g2
      have h4' := h4 (i + 1) (by omega)
      refine tseq_ (a6.et (etx_test (evx_gt (evx_lenO hpm g2 (ea_cons (ev_var rfl) ea_nil)) ev_int.x)) fun H5 f5 a7 => ?_)
      have hbig : decide ((4000 : Int) < ((kvB (stAt L ls (i + 1))).length : Nat)) = false := by
        unfold kvB
        rw [List.length_map]
        exact decide_eq_false (by omega)
      rw [hbig, if_neg (by decide)]
      refine a7.append (p := q) rfl hqm g1 (by have := hF.1; omega) ((ev_var (d := .adr p) rfl).x) g1 fun v6 H6 f6 a8 r8 => ?_
      cases r8.adr_
      obtain ⟨a9, up9, ep9⟩ := a8.rel hpA hp0
      have hpH1 : H2 p = none := by
        cases e : H2 p with
        | none => rfl
        | some u =>
          have hpq' : p ∉ [q] := hpA
          rw [f2 p u hpq' e] at hp; cases hp
      have ftot : SameX [p, q] H2 H6 := (((sameX_more f2).trans (SameX.of (same_upd hp))).trans f3).trans (f5.trans f6)
      refine ⟨sameX_drop ftot hpH1, _, _, a9.fgt [4, 5] rfl, xs ++ [.ref p], by rw [upd_same], ?_, rfl⟩
      have hF6 : FoundB L ls (i + 1) (Gx [q] (tups H) H H6) xs := by
        refine (hF5.mono ?_).mono up9
        have u1 := a5.up f3 a6.own
        have u2 := a6.up (f5.trans f6) a8.own
        exact u1.trans u2
      refine ⟨by rw [List.length_append, hF.1]; rfl, fun j hj => ?_⟩
      by_cases hj' : j < i + 1
      · obtain ⟨b0, b1, b2⟩ := hF6.2 j hj'
        exact ⟨b0, by rw [List.getElem?_append_left (by rw [hF.1]; exact hj')]; exact b1, b2⟩
      · have : j = i + 1 := by omega
        subst this
        refine ⟨p, ?_, ?_⟩
        · rw [List.getElem?_append_right (by rw [hF.1]; exact Nat.le_refl _), hF.1]
          simp
        · rw [ep9, upd_ne hpq]
          exact g2
  · -- return found
    subst hps
    have hq : q ∈ [q] := List.mem_singleton.mpr rfl
    obtain ⟨v, ev, rv⟩ := a3.sl.2 3 _ rfl
    cases rv.adr_
    refine ⟨.ref q, ev, ?_⟩
    obtain ⟨a4, up, eq4⟩ := a3.rel (by simp) hq0
    have z := (hF.mono up).rl (b := true)
    rw [List.length_map, List.length_range] at z
    exact fin _ _ (a4.sameN fun c m => nomatch m) (a4.newV (.lst (by rw [eq4]; exact hc) z) (fun c m => nomatch m))
end
end SP
set_option Elab.async false
set_option linter.all false
set_option maxRecDepth 100000
set_option maxHeartbeats 1000000
/-! Stillpanes: kept_states. -/
namespace SP
open PySem L2 PySem.Spec PyProof.Rows
/-- the states k widths below the top that have a way up -/
def nextIn (up : List (List Int)) (c : List Int) : Bool := (List.range c.length).any fun p => decide (moreZ c p ∈ up)
def kUp (L : Lay) (ls : List (List Nat × Int)) (W : Nat) : Nat → List (List Int)
  | 0 => stAt L ls W
  | k + 1 => (stAt L ls (W - (k + 1))).filter (nextIn (kUp L ls W k))
def keptAt (L : Lay) (ls : List (List Nat × Int)) (W w : Nat) : List (List Int) := kUp L ls W (W - w)
theorem keptAt_top (L : Lay) (ls : List (List Nat × Int)) (W : Nat) : keptAt L ls W W = stAt L ls W := by
  unfold keptAt
  rw [Nat.sub_self]
  rfl
theorem keptAt_low {L : Lay} {ls : List (List Nat × Int)} {W w : Nat} (h : w < W) : keptAt L ls W w = (stAt L ls w).filter (nextIn (keptAt L ls W (w + 1))) := by
  unfold keptAt
  have e : W - w = (W - (w + 1)) + 1 := by omega
  rw [e]
  show (stAt L ls (W - (W - (w + 1) + 1))).filter _ = _
  have e2 : W - (W - (w + 1) + 1) = w := by omega
  rw [e2]
theorem turnSt_nodup {L : Lay} {ls : List (List Nat × Int)} {w : Nat} {c : List Int} : ∀ (ps : List Nat) (later : List (List Int)), later.Nodup → (ps.foldl (fun later p => addSt L ls w later c p) later).Nodup
  | [], _, h => h
  | p :: ps, later, h => turnSt_nodup ps _ (by
    show (if (!decide (moreZ c p ∈ later) && within L ls w (moreZ c p)) = true then later ++ [moreZ c p] else later).Nodup
    split
    · rename_i hb
      have hn : moreZ c p ∉ later := fun z => by rw [decide_eq_true z] at hb; cases hb
      exact List.nodup_append.mpr ⟨h, by simp, fun a ha b hb' => by
        rw [List.mem_singleton.mp hb']
        exact fun z => hn (z ▸ ha)⟩
    · exact h)
theorem stAt_nodup (L : Lay) (ls : List (List Nat × Int)) : ∀ w, (stAt L ls w).Nodup
  | 0 => by simp [stAt]
  | w + 1 => by
    have : ∀ (st later : List (List Int)), later.Nodup → (st.foldl (turnSt L ls (w + 1)) later).Nodup := by
      intro st
      induction st with
      | nil => intro later h; exact h
      | cons c st ih => intro later h; exact ih _ (turnSt_nodup _ _ h)
    exact this _ _ (by simp)
theorem keptAt_sub {L : Lay} {ls : List (List Nat × Int)} {W w : Nat} (h : w ≤ W) : ∀ x ∈ keptAt L ls W w, x ∈ stAt L ls w := by
  intro x hx
  by_cases e : w = W
  · subst e; rw [keptAt_top] at hx; exact hx
  · rw [keptAt_low (by omega)] at hx; exact (List.mem_filter.mp hx).1
theorem keptAt_nodup {L : Lay} {ls : List (List Nat × Int)} {W w : Nat} (h : w ≤ W) : (keptAt L ls W w).Nodup := by
  by_cases e : w = W
  · subst e; rw [keptAt_top]; exact stAt_nodup L ls w
  · rw [keptAt_low (by omega)]; exact (stAt_nodup L ls w).filter _
/-- what stands in the list when the widths from m on are done -/
def midAt (L : Lay) (ls : List (List Nat × Int)) (W m j : Nat) : List (List Int) := if m ≤ j then keptAt L ls W j else stAt L ls j
def FoundK (f : Nat → List (List Int)) (n : Nat) (G : Hp) (xs : List V) : Prop := xs.length = n ∧ ∀ j, j < n → ∃ a, xs[j]? = some (.ref a) ∧ G a = some (.dT (kvB (f j)))
theorem FoundK.mono {f : Nat → List (List Int)} {n : Nat} {G G' : Hp} {xs : List V} (h : FoundK f n G xs) (s : Sub G G') : FoundK f n G' xs := ⟨h.1, fun j hj => let ⟨a, h1, h2⟩ := h.2 j hj; ⟨a, h1, s _ _ h2⟩⟩
theorem FoundK.of {f : Nat → List (List Int)} {n : Nat} {G : Hp} {xs : List V} (r : RL true G xs ((List.range n).map fun w => .dct (dB (f w)))) : FoundK f n G xs := by
  refine ⟨by rw [r.len, List.length_map, List.length_range], fun j hj => ?_⟩
  obtain ⟨v, h1, h2⟩ := r.get (i := j) (d := .dct (dB (f j))) (by rw [List.getElem?_map, List.getElem?_range hj]; rfl)
  obtain ⟨a, rfl, h3⟩ := dctB_of h2
  exact ⟨a, h1, h3⟩
theorem FoundK.rl {f : Nat → List (List Int)} {b : Bool} {G : Hp} : ∀ {n : Nat} {xs : List V}, FoundK f n G xs → RL b G xs ((List.range n).map fun w => .dct (dB (f w)))
  | 0, xs, h => by
    have : xs = [] := List.eq_nil_of_length_eq_zero h.1
    subst this
    exact .nil
  | n + 1, xs, h => by
    have hne : xs ≠ [] := fun z => by
      have := h.1
      rw [z] at this
      simp at this
    have hx : xs = xs.dropLast ++ [xs.getLast hne] := (List.dropLast_concat_getLast hne).symm
    have hl : xs.dropLast.length = n := by rw [List.length_dropLast, h.1]; rfl
    have h' : FoundK f n G xs.dropLast := ⟨hl, fun j hj => by
      obtain ⟨a, h1, h2⟩ := h.2 j (by omega)
      refine ⟨a, ?_, h2⟩
      rw [hx, List.getElem?_append_left (by omega)] at h1
      exact h1⟩
    obtain ⟨a, h1, h2⟩ := h.2 n (by omega)
    rw [hx, List.getElem?_append_right (by omega), hl] at h1
    have h1 : xs.getLast hne = .ref a := by simpa using h1
    rw [List.range_succ, List.map_append, hx, h1]
    exact h'.rl.append (.one (dctB_to h2))
theorem atI_rng {α : Type} {f : Nat → α} {n i : Nat} (h : i < n) : atI ((List.range n).map f) (i : Int) = some (f i) := atI_nat (by rw [List.getElem?_map, List.getElem?_range h]; rfl)
section
variable {P : Program} {w : World} {K : PySem.W.Frag} {mg : Str → Option Value} {base : Heap}
def FKept (ds : List D) (d : D) : Prop := ∃ (L : Lay) (W : Nat) (ls : List (List Nat × Int)), ds = [L.d, limsD ls] ∧ L.Ok W ∧ LimsOk L ls ∧ (∀ j, j ≤ W → (stAt L ls j).length ≤ 4000) ∧ d = .lst ((List.range (W + 1)).map fun w => .dct (dB (keptAt L ls W w)))
theorem sc_kept_states : FnScope ["layout", "limits", "found", "width", "later", "own"] ["layout", "limits"] (defScope (top 13)) := ⟨rfl, rfl, rfl, by decide +kernel, rfl, by decide +kernel, by decide +kernel⟩
theorem ok_kept_states (T : Txt mg) (h_all_states : Has P w K mg base "all_states" ["layout", "limits"] 2 (SpR FAll)) (h_has_next : Has P w K mg base "has_next" ["counts", "later"] 2 (SpR FNext)) {f : Addr} {fd : FuncData} (Fn : Fun K "kept_states" "kept_states" (top 13) f fd) : FnOk P w K mg base (L2.CX P w) 3 f fd ["layout", "limits"] (SpR FKept) := by
  refine ok_own (k := 2) Fn sc_kept_states (fun ds d ⟨L, W, ls, e, _, _, _, ed⟩ => by subst e ed; exact ⟨rfl, imm2 L.imm (limsD_imm ls)⟩) fun cdv A outer s H E ds d hr ⟨L, W, ls, e, hL, hl, h4, ed⟩ => ?_
  subst e ed
  have hr_all_states := hr
  have hr_has_next := hr
  have hu4 := un_of (n := 4) hr
  have n1 := hL.n1
  have w1 := hL.w1
  refine ⟨_, (pss_cons (ps_set (i := 2) sc_kept_states.nd rfl (Or.inl rfl) (pe_has h_all_states hr_all_states (by rfl) (pa_cons (pv 0) (pa_cons (pv 1) pa_nil)) pass0))
      (pss_cons (ps_for (passes_of rfl) rfl (pi_range3 (by rfl) T.range_ (pa_cons (pe_op op_sub (pe_callB (len_ K) (by rfl) T.len_ bt_len (pa_cons (pv 2) pa_nil)) pe_int) (pa_cons (pe_un un_neg pe_int) (pa_cons (pe_un un_neg pe_int) pa_nil)))) (pg_name (i := 3) sc_kept_states.nd rfl (Or.inl rfl))
      (pss_cons (ps_set (i := 4) sc_kept_states.nd rfl (Or.inr rfl) (pe_ix (ixL_ K) (pv 2) (pe_op op_add (pv 3) pe_int) (fun _ _ => rfl)))
      (pss_one (ps_asg (pe_callTy (call_dictT rfl hu4) (by rfl) T.dict_ bt_dict (pa_cons (pe_lock (pe_lc (own := [("own", 5)]) rfl sc_kept_states.nd (pi_keys (pe_ix (ixL_ K) (pv 2) (pv 3) (fun _ _ => rfl))) (blkOk_by (by rfl)) (fun _ _ _ _ _ => (pg_name (i := 5) sc_kept_states.nd rfl (Or.inl rfl))) (fun _ _ _ _ _ => (pts_one (pt_val (pe_has h_has_next hr_has_next (by rfl) (pa_cons (pv 5) (pa_cons (pv 4) pa_nil)) pass0)))) (fun _ _ _ _ _ => (pe_tup (pa_cons (pv 5) (pa_cons pe_bl pa_nil)))))) pa_nil)) (pg_sub (pv 2) (pv 3) set_list)))))
      (pss_one (ps_ret (pv 2))))), fun σ Dn a0 fin => ?_⟩
  refine tseq_ (a0.evP (ev_call (F := FAll) (ea_cons (ev_var rfl) (ea_cons (ev_var rfl) ea_nil)) ⟨L, W, ls, rfl, hL, hl, h4, rfl⟩) fun v H1 e1 a1 r => ?_)
  obtain ⟨q, xs0, rfl, eq, rl⟩ := R.lst_ r
  have hq0 : H q = none := gx_new eq trivial
  have hqA : q ∉ ([] : List Addr) := by simp
  have him : ∀ {x y : Option D}, (∀ d, x = some d → Imm d) → (∀ d, y = some d → Imm d) → AllImm [some L.d, some (limsD ls), some (.adr q), x, y, none] := fun {x y} hx hy i d e => by
    match i, e with
    | 0, e => cases e; exact L.imm
    | 1, e => cases e; exact limsD_imm ls
    | 2, e => cases e; exact .adr q
    | 3, e => exact hx d (by simpa using e)
    | 4, e => exact hy d (by simpa using e)
    | 5, e => cases e
    | n + 6, e => simp at e
  obtain ⟨a2, _⟩ := (a1.set 2 (.adr q)).take eq trivial hq0 (him (fun _ z => nomatch z) (fun _ z => nomatch z))
  have hF0 : FoundK (midAt L ls W W) (W + 1) (Gx [q] (tups H) H H1) xs0 := by
    have z := FoundK.of (f := stAt L ls) rl
    refine ⟨z.1, fun j hj => ?_⟩
    obtain ⟨a, h1, h2⟩ := z.2 j hj
    refine ⟨a, h1, ?_⟩
    have hm : midAt L ls W W j = stAt L ls j := by
      unfold midAt
      split
      · have : j = W := by omega
        subst this
        rw [keptAt_top]
      · rfl
    rw [hm]
    exact gx_take eq _ _ (fun z => by rw [z, eq] at h2; cases h2) h2
  have hxs0 := hF0.1
  have elen : EvP true [some L.d, some (limsD ls), some (D.lst ((List.range (W + 1)).map fun w => .dct (dB (stAt L ls w)))), none, none, none] (tCB (rLenQ K) (tCons (tVar 2) tNil)) (.int ((W + 1 : Nat) : Int)) := EvP.is (ev_lenL (ea_cons (ev_var rfl) ea_nil)) (by simp)
  -- for width in range(len(found) - 2, -1, -1)
  refine gname_ ?_
  dsimp only
  refine tseq_ (a2.forV (items := (List.range W).map fun k => .int (((W : Int) - 1) + (k : Nat) * (-1))) (fun i G C ps => ∃ xs, C q = some (.lst xs) ∧ FoundK (midAt L ls W (W - i)) (W + 1) G xs ∧ ps = [some L.d, some (limsD ls), some (.adr q), none, none, none]) (fun i G G' C ps ⟨xs, h1, h2, h3⟩ s => ⟨xs, h1, h2.mono s, h3⟩)
    (fun Rr hR => ?_) ⟨xs0, upd_same, by rw [Nat.sub_zero]; exact hF0, rfl⟩ (fun H2 i dd σ' H' v' C' ps' f1 hd f2 a3 ⟨xs, hc, hF, hps⟩ r3 => ?_) fun σ' H' C' ps' f1 a3 ⟨xs, hc, hF, hps⟩ => ?_)
  · -- the range
    obtain ⟨a3, up, eq3⟩ := a2.rel hqA hq0
    have rq : R true (Gx [] (tups H) H H1) (.ref q) (.lst ((List.range (W + 1)).map fun w => .dct (dB (midAt L ls W W w)))) := .lst (by rw [eq3, upd_same]) (hF0.mono up).rl
    refine (a3.recall (j := 2) rfl rq).eaP (ea_cons (ev_sub (EvP.is (ev_lenL (ea_cons (ev_var rfl) ea_nil)) (by rw [List.length_map, List.length_range])) ev_int) (ea_cons (ev_neg ev_int) (ea_cons (ev_neg ev_int) ea_nil))) fun vs H2 e2 a4 r2 => ?_
    obtain ⟨v1, v2, v3, rfl, q1, q2, q3⟩ := r2.three_
    refine ⟨(W : Int) - 1, -1, -1, W, by rw [q1.int_, q2.int_, q3.int_]; congr 2; omega, ?_, hR _ H2 e2 iv_rngC⟩
    have z := RgC.neg (i := (W : Int) - 1) (j := -1) (by omega) (by omega) (by omega) (by omega)
    have e : ((W : Int) - 1 - -1).toNat = W := by omega
    rw [e] at z
    exact z
  · -- a width's turn
    subst hps
    have hi : i < W := by
      have := (List.getElem?_eq_some_iff.mp hd).1
      simpa using this
    obtain ⟨wd, hwd⟩ : ∃ wd : Nat, wd = W - 1 - i := ⟨_, rfl⟩
    have hdd : dd = .int (wd : Nat) := by
      rw [List.getElem?_map, List.getElem?_range hi] at hd
      have e : ((W : Int) - 1) + (i : Nat) * (-1) = (wd : Nat) := by omega
      rw [← Option.some.inj hd]
      show D.int (((W : Int) - 1) + (i : Nat) * (-1)) = _
      rw [e]
    subst hdd
    have hxl := hF.1
    refine a3.gd gd_1 r3 fun σ2 a4 => ?_
    obtain ⟨b0, up, eqb⟩ := a4.rel hqA hq0
    have hF1 := hF.mono up
    have rq : R true (Gx [] (tups H) H H') (.ref q) (.lst ((List.range (W + 1)).map fun w => .dct (dB (midAt L ls W (W - i) w)))) := .lst (by rw [eqb]; exact hc) hF1.rl
    refine tseq_ ((b0.recall (j := 2) rfl rq).evP (ev_ixL (ev_var rfl) (ev_add (ev_var rfl) ev_int) (d := .dct (dB (midAt L ls W (W - i) (wd + 1)))) ?_) fun v4 H4 e4 b1' r4 => ?_)
    · exact atI_rng (i := wd + 1) (by omega)
    obtain ⟨la, rfl, hla⟩ := dctB_of r4
    have b1 := (b0.same' e4).set 4 (.adr la)
    refine gname_ ?_
    dsimp only
    have u4 := b0.up (.of e4) b1'.own
    have hk1 : midAt L ls W (W - i) (wd + 1) = keptAt L ls W (wd + 1) := by
      unfold midAt
      rw [if_pos (by omega)]
    rw [hk1] at hla
    have hk0 : midAt L ls W (W - i) wd = stAt L ls wd := by
      unfold midAt
      rw [if_neg (by omega)]
    have b2 := (b1.recall (j := 2) rfl (rq.same u4)).recall (j := 4) rfl (dctB_to hla)
    refine b2.evP (ev_dict (ks := dB (keptAt L ls W wd)) (ea_cons (ev_lockI (j := 2) (i := wd) rfl (ks := dB (stAt L ls wd)) ?_ ?_ (ev_lc (stAt L ls wd) keyD (fun c => [some L.d, some (limsD ls), some (.lst (((List.range (W + 1)).map fun w => D.dct (dB (midAt L ls W (W - i) w))).set wd (.lkd (dB (stAt L ls wd))))), some (.int (wd : Nat)), some (.dct (dB (keptAt L ls W (wd + 1)))), some (keyD c)]) (nextIn (keptAt L ls W (wd + 1))) (fun c => pairD (c, .bl true)) ?_ ?_ ?_ (fun c hc => gd_1) (fun c hc => et_B (EvP.is (ev_call (F := FNext) (ea_cons (ev_var rfl) (ea_cons (ev_var rfl) ea_nil)) ⟨c, dB (keptAt L ls W (wd + 1)), rfl, ?_, rfl⟩) ?_)) fun c hc _ => ev_tup (ea_cons (ev_var rfl) (ea_cons ev_bl ea_nil)) (by simp))) ea_nil)) fun v5 H5 e5 b5 r5 => ?_
    · rw [List.getElem?_map, List.getElem?_range (by omega)]
      rw [Option.map_some, hk0]
    · intro y hy
      obtain ⟨p, _, rfl⟩ := List.mem_map.mp hy
      exact .tup (imm2 (keyD_imm _) (by
        obtain ⟨c, hc2, rfl⟩ := List.mem_map.mp ‹p ∈ dB (keptAt L ls W wd)›
        exact .bl true))
    · rw [keptAt_low (by omega)]
      unfold dB
      rw [List.map_map]
      rfl
    · have := h4 wd (by omega)
      omega
    · refine IvP.is (iv_keys (ks := dB (stAt L ls wd)) (ev_ixL (ev_var rfl) (ev_var rfl) ?_)) ?_
      · refine atI_nat ?_
        rw [List.getElem?_set_self (by rw [List.length_map, List.length_range]; omega)]
      · unfold dB
        rw [List.map_map]
        rfl
    · rw [stAt_len wd c hc]
      omega
    · congr 1
      unfold nextIn
      congr 1
      funext p
      rw [valDB]
    rw [mergeD_nodup (by rw [dB_keys]; exact keptAt_nodup (by omega))] at r5
    obtain ⟨nd, rfl, hnd⟩ := dctB_of r5
    have u5 := b1.up (.of e5) b5.own
    have hq5 : Gx [] (tups H) H H5 q = some (.lst xs) := u5 _ _ (u4 _ _ (by rw [eqb]; exact hc))
    have b6 := (b1.same' e5)
    obtain ⟨b7, _⟩ := b6.take hq5 trivial hq0 (him (fun d e => by cases e; exact .int _) (fun d e => by cases e; exact .adr la))
    refine b7.setL (p := q) (List.mem_singleton.mpr rfl) upd_same (ev_var rfl) (ev_var rfl) (ixN_nat (j := wd) (by omega)) fun H6 e6 b8 => ?_
    refine ⟨((f2.trans (.of e4)).trans (.of e5)).trans e6, _, _, b8.fgt [3, 4] rfl, xs.set wd (.ref nd), upd_same, ⟨by rw [List.length_set]; exact hxl, fun j hj => ?_⟩, rfl⟩
    have u7 : ∀ c u, c ≠ q → Gx [] (tups H) H H5 c = some u → Gx [q] (tups H) H H6 c = some u := fun c u hc' h => b7.up e6 b8.own _ _ (gx_take hq5 c u hc' h)
    by_cases hjw : j = wd
    · subst hjw
      refine ⟨nd, by rw [List.getElem?_set_self (by omega)], ?_⟩
      have hm : midAt L ls W (W - (i + 1)) j = keptAt L ls W j := by
        unfold midAt
        rw [if_pos (by omega)]
      rw [hm]
      exact u7 _ _ (fun z => by rw [z, hq5] at hnd; cases hnd) hnd
    · obtain ⟨a, h1, h2⟩ := hF1.2 j hj
      refine ⟨a, by rw [List.getElem?_set_ne (fun z => hjw z.symm)]; exact h1, ?_⟩
      have hm : midAt L ls W (W - (i + 1)) j = midAt L ls W (W - i) j := by
        unfold midAt
        by_cases hc' : W - i ≤ j
        · rw [if_pos hc', if_pos (by omega)]
        · rw [if_neg hc', if_neg (by omega)]
      rw [hm]
      have h3 := u5 _ _ (u4 _ _ h2)
      exact u7 _ _ (fun z => by rw [z, hq5] at h3; cases h3) h3
  · -- return found
    subst hps
    obtain ⟨v, ev, rv⟩ := a3.sl.2 2 _ rfl
    cases rv.adr_
    refine ⟨.ref q, ev, ?_⟩
    obtain ⟨a4, up, eq4⟩ := a3.rel (by simp) hq0
    have z := (hF.mono up).rl (b := true)
    rw [List.length_map, List.length_range, Nat.sub_self] at z
    have z2 : ((List.range (W + 1)).map fun w => D.dct (dB (midAt L ls W 0 w))) = (List.range (W + 1)).map fun w => D.dct (dB (keptAt L ls W w)) := by
      congr 1
    rw [z2] at z
    exact fin _ _ (a4.sameN fun c m => nomatch m) (a4.newV (.lst (by rw [eq4]; exact hc) z) (fun c m => nomatch m))
end
end SP
set_option Elab.async false
set_option linter.all false
set_option maxRecDepth 100000
set_option maxHeartbeats 1000000
/-! Stillpanes: cheapest. -/
namespace SP
open PySem L2 PySem.Spec PyProof.Rows
abbrev Cost := List (List Int × Int)
def lookZ (ks : Cost) (k : List Int) : Option Int := (ks.find? fun p => decide (p.1 = k)).map (·.2)
def putZ (ks : Cost) (k : List Int) (v : Int) : Cost := if (ks.any fun p => decide (p.1 = k)) = true then ks.map (fun p => if p.1 = k then (p.1, v) else p) else ks ++ [(k, v)]
def ltZ (ks : Cost) (k : List Int) (v : Int) : Bool := match lookZ ks k with
  | none => false
  | some u => decide (v < u)
def costZ (cost : Int) (own p : Nat) : Int := cost + (if (!decide (own = p)) = true then 1 else 0)
/-- a pane's turn, a state's turns, a pixel's -/
def addC (up : List (List Int)) (p : Nat) (later : Cost) (cc : List Int × Int) (own : Nat) : Cost :=
  if (decide (moreZ cc.1 own ∈ up) && (!(lookZ later (moreZ cc.1 own)).isSome || ltZ later (moreZ cc.1 own) (costZ cc.2 own p))) = true then putZ later (moreZ cc.1 own) (costZ cc.2 own p) else later
def turnC (up : List (List Int)) (p : Nat) (later : Cost) (cc : List Int × Int) : Cost := (List.range cc.1.length).foldl (fun later own => addC up p later cc own) later
def costAt (L : Lay) (ls : List (List Nat × Int)) (d : List Nat) : Nat → Cost
  | 0 => (stAt L ls 0).map fun k => (k, 0)
  | w + 1 => (costAt L ls d w).foldl (turnC (stAt L ls (w + 1)) (d.getD w 0)) []
theorem lookZ_some {ks : Cost} {k : List Int} {v : Int} (h : lookZ ks k = some v) : (k, v) ∈ ks := by
  unfold lookZ at h
  obtain ⟨p, hp, rfl⟩ := Option.map_eq_some_iff.mp h
  have h1 := List.mem_of_find?_eq_some hp
  have h2 := List.find?_some hp
  have : p.1 = k := by simpa using h2
  rw [← this]
  exact h1
theorem any_key (ks : Cost) (k : List Int) : (ks.any fun p => decide (p.1 = k)) = decide (k ∈ ks.map (·.1)) := by
  induction ks with
  | nil => rfl
  | cons c ks ih =>
    rw [List.any_cons, ih, List.map_cons]
    by_cases h : c.1 = k
    · subst h; simp
    · have h' : ¬ k = c.1 := fun z => h z.symm
      simp [h, h']
theorem lookZ_isSome (ks : Cost) (k : List Int) : (lookZ ks k).isSome = decide (k ∈ ks.map (·.1)) := by
  induction ks with
  | nil => rfl
  | cons c ks ih =>
    unfold lookZ at ih ⊢
    by_cases h : c.1 = k
    · subst h
      simp
    · have h' : ¬ k = c.1 := fun z => h z.symm
      simp only [List.find?_cons, h, decide_false, List.map_cons]
      rw [ih]
      simp [h']
theorem putZ_keys (ks : Cost) (k : List Int) (v : Int) : (putZ ks k v).map (·.1) = if k ∈ ks.map (·.1) then ks.map (·.1) else ks.map (·.1) ++ [k] := by
  unfold putZ
  rw [any_key]
  by_cases h : k ∈ ks.map (·.1)
  · rw [if_pos (by simpa using h), if_pos h, List.map_map]
    congr 1
    funext p
    show (if p.1 = k then (p.1, v) else p).1 = p.1
    split <;> rfl
  · rw [if_neg (by simpa using h), if_neg h, List.map_append]
    rfl
theorem kvZ_put (ks : Cost) (k : List Int) (v : Int) : kvZ (putZ ks k v) = putK (kvZ ks) (k.map Sum.inl) (.int v) := by
  unfold putZ putK
  have e : ((kvZ ks).any fun kv => decide (kv.1 = k.map Sum.inl)) = ks.any fun p => decide (p.1 = k) := by
    unfold kvZ
    rw [List.any_map]
    congr 1
    funext p
    show decide (p.1.map (Sum.inl (β := Str)) = k.map Sum.inl) = decide (p.1 = k)
    by_cases h : p.1 = k
    · rw [decide_eq_true h, decide_eq_true (inl_inj.mpr h)]
    · rw [decide_eq_false h, decide_eq_false (fun z => h (inl_inj.mp z))]
  rw [e]
  split
  · unfold kvZ
    rw [List.map_map, List.map_map]
    congr 1
    funext p
    show ((if p.1 = k then (p.1, v) else p).1.map Sum.inl, V.int (if p.1 = k then (p.1, v) else p).2) = if p.1.map (Sum.inl (β := Str)) = k.map Sum.inl then (p.1.map Sum.inl, V.int v) else (p.1.map Sum.inl, V.int p.2)
    by_cases h : p.1 = k
    · rw [if_pos h, if_pos (inl_inj.mpr h)]
    · rw [if_neg h, if_neg (fun z => h (inl_inj.mp z))]
  · unfold kvZ
    rw [List.map_append]
    rfl
theorem valZ (ks : Cost) (k : List Int) : valV (kvZ ks) (k.map Sum.inl) = (lookZ ks k).map V.int := by
  induction ks with
  | nil => rfl
  | cons c ks ih =>
    unfold lookZ at ih ⊢
    by_cases h : c.1 = k
    · rw [show kvZ (c :: ks) = (c.1.map Sum.inl, V.int c.2) :: kvZ ks from rfl, valV_pos (inl_inj.mpr h)]
      simp [List.find?_cons, h]
    · rw [show kvZ (c :: ks) = (c.1.map Sum.inl, V.int c.2) :: kvZ ks from rfl, valV_neg (fun z => h (inl_inj.mp z)), ih]
      simp [List.find?_cons, h]
theorem valDZ (ks : Cost) (k : List Int) : valD (dZ ks) k = (lookZ ks k).map D.int := by
  induction ks with
  | nil => rfl
  | cons c ks ih =>
    unfold lookZ at ih ⊢
    unfold valD dZ at ih ⊢
    by_cases h : c.1 = k
    · simp [List.find?_cons, h]
    · simp only [List.map_cons, List.find?_cons, h, decide_false]
      exact ih
theorem len_sub {α : Type} [DecidableEq α] : ∀ (xs ys : List α), xs.Nodup → (∀ x ∈ xs, x ∈ ys) → xs.length ≤ ys.length
  | [], _, _, _ => Nat.zero_le _
  | x :: xs, ys, hn, h => by
    rw [List.nodup_cons] at hn
    have hx := h x (List.mem_cons_self ..)
    have := len_sub xs (ys.erase x) hn.2 fun y hy => (List.mem_erase_of_ne (fun z => hn.1 (by rw [← z]; exact hy))).mpr (h y (List.mem_cons_of_mem _ hy))
    rw [List.length_erase_of_mem hx] at this
    have hp : 0 < ys.length := List.length_pos_of_mem hx
    rw [List.length_cons]
    omega
/-- the keys: each once, each among the states -/
def KeyOk (up : List (List Int)) (ks : Cost) : Prop := (ks.map (·.1)).Nodup ∧ ∀ k ∈ ks.map (·.1), k ∈ up
theorem KeyOk.nil {up : List (List Int)} : KeyOk up [] := ⟨by simp, fun k h => by simp at h⟩
theorem KeyOk.len {up : List (List Int)} {ks : Cost} (h : KeyOk up ks) : ks.length ≤ up.length := by
  have := len_sub _ _ h.1 h.2
  rwa [List.length_map] at this
theorem KeyOk.add {up : List (List Int)} {p : Nat} {later : Cost} {cc : List Int × Int} {own : Nat} (h : KeyOk up later) : KeyOk up (addC up p later cc own) := by
  unfold addC
  split
  · rename_i hb
    have hm : moreZ cc.1 own ∈ up := by
      rw [Bool.and_eq_true] at hb
      simpa using hb.1
    refine ⟨?_, fun k hk => ?_⟩
    · rw [putZ_keys]
      split
      · exact h.1
      · rename_i hn
        exact List.nodup_append.mpr ⟨h.1, by simp, fun a ha b hb' => by
          rw [List.mem_singleton.mp hb']
          exact fun z => hn (z ▸ ha)⟩
    · rw [putZ_keys] at hk
      split at hk
      · exact h.2 k hk
      · rcases List.mem_append.mp hk with hk | hk
        · exact h.2 k hk
        · rw [List.mem_singleton.mp hk]; exact hm
  · exact h
theorem KeyOk.adds {up : List (List Int)} {p : Nat} {cc : List Int × Int} : ∀ (os : List Nat) {later : Cost}, KeyOk up later → KeyOk up (os.foldl (fun later own => addC up p later cc own) later)
  | [], _, h => h
  | o :: os, _, h => KeyOk.adds os h.add
theorem KeyOk.turns {up : List (List Int)} {p : Nat} : ∀ (cs : Cost) {later : Cost}, KeyOk up later → KeyOk up (cs.foldl (turnC up p) later)
  | [], _, h => h
  | c :: cs, _, h => KeyOk.turns cs (KeyOk.adds _ h)
theorem costAt_ok (L : Lay) (ls : List (List Nat × Int)) (d : List Nat) : ∀ w, KeyOk (stAt L ls w) (costAt L ls d w)
  | 0 => by
    refine ⟨?_, fun k hk => ?_⟩
    · show (((stAt L ls 0).map fun k => (k, (0 : Int))).map (·.1)).Nodup
      rw [List.map_map]
      show ((stAt L ls 0).map id).Nodup
      rw [List.map_id]
      exact stAt_nodup L ls 0
    · have : ((costAt L ls d 0).map (·.1)) = stAt L ls 0 := by
        show (((stAt L ls 0).map fun k => (k, (0 : Int))).map (·.1)) = _
        rw [List.map_map]
        exact List.map_id _
      rw [this] at hk
      exact hk
  | w + 1 => KeyOk.turns _ KeyOk.nil
/-- what stands in the list of costs -/
def FoundZ (f : Nat → Cost) (n : Nat) (G : Hp) (xs : List V) : Prop := xs.length = n ∧ ∀ j, j < n → ∃ a, xs[j]? = some (.ref a) ∧ G a = some (.dT (kvZ (f j)))
theorem FoundZ.mono {f : Nat → Cost} {n : Nat} {G G' : Hp} {xs : List V} (h : FoundZ f n G xs) (s : Sub G G') : FoundZ f n G' xs := ⟨h.1, fun j hj => let ⟨a, h1, h2⟩ := h.2 j hj; ⟨a, h1, s _ _ h2⟩⟩
theorem FoundZ.rl {f : Nat → Cost} {b : Bool} {G : Hp} : ∀ {n : Nat} {xs : List V}, FoundZ f n G xs → RL b G xs ((List.range n).map fun w => .dct (dZ (f w)))
  | 0, xs, h => by
    have : xs = [] := List.eq_nil_of_length_eq_zero h.1
    subst this
    exact .nil
  | n + 1, xs, h => by
    have hne : xs ≠ [] := fun z => by
      have := h.1
      rw [z] at this
      simp at this
    have hx : xs = xs.dropLast ++ [xs.getLast hne] := (List.dropLast_concat_getLast hne).symm
    have hl : xs.dropLast.length = n := by rw [List.length_dropLast, h.1]; rfl
    have h' : FoundZ f n G xs.dropLast := ⟨hl, fun j hj => by
      obtain ⟨a, h1, h2⟩ := h.2 j (by omega)
      refine ⟨a, ?_, h2⟩
      rw [hx, List.getElem?_append_left (by omega)] at h1
      exact h1⟩
    obtain ⟨a, h1, h2⟩ := h.2 n (by omega)
    rw [hx, List.getElem?_append_right (by omega), hl] at h1
    have h1 : xs.getLast hne = .ref a := by simpa using h1
    rw [List.range_succ, List.map_append, hx, h1]
    exact h'.rl.append (.one (dctZ_to h2))
section
variable {P : Program} {w : World} {K : PySem.W.Frag} {mg : Str → Option Value} {base : Heap}
def FCheap (ds : List D) (d : D) : Prop := ∃ (L : Lay) (W : Nat) (dr : List Nat) (ls : List (List Nat × Int)), ds = [L.d, nats dr, limsD ls] ∧ L.Ok W ∧ LimsOk L ls ∧ DrawOk L W dr ∧ (∀ j, j ≤ W → (stAt L ls j).length ≤ 4000) ∧ d = .lst ((List.range (W + 1)).map fun w => .dct (dZ (costAt L ls dr w)))
abbrev stsD (L : Lay) (ls : List (List Nat × Int)) (W : Nat) : D := .lst ((List.range (W + 1)).map fun w => .dct (dB (stAt L ls w)))
theorem sc_cheapest : FnScope ["layout", "drawing", "limits", "states", "found", "place", "pane", "later", "counts", "cost", "own", "now", "more"] ["layout", "drawing", "limits"] (defScope (top 15)) := ⟨rfl, rfl, rfl, by decide +kernel, rfl, by decide +kernel, by decide +kernel⟩
theorem ok_cheapest (T : Txt mg) (h_all_states : Has P w K mg base "all_states" ["layout", "limits"] 2 (SpR FAll)) (h_counts_more : Has P w K mg base "counts_more" ["counts", "pane"] 1 (SpR FMore)) {f : Addr} {fd : FuncData} (Fn : Fun K "cheapest" "cheapest" (top 15) f fd) : FnOk P w K mg base (L2.CX P w) 3 f fd ["layout", "drawing", "limits"] (SpR FCheap) := by
  refine ok_own (k := 2) Fn sc_cheapest (fun ds d ⟨L, W, dr, ls, e, _, _, _, _, ed⟩ => by subst e ed; exact ⟨rfl, imm3 L.imm (nats_imm dr) (limsD_imm ls)⟩) fun cdv A outer s H E ds d hr ⟨L, W, dr, ls, e, hL, hl, hd, h4, ed⟩ => ?_
  subst e ed
  have hr_all_states := hr
  have hr_counts_more := hr.mono (by decide : 1 ≤ 2)
  have hu1 := un_of (n := 1) hr
  have hu4 := un_of (n := 4) hr
  have n0 := hL.n0
  have n1 := hL.n1
  have w1 := hL.w1
  refine ⟨_, (pss_cons (ps_set (i := 3) sc_cheapest.nd rfl (Or.inl rfl) (pe_has h_all_states hr_all_states (by rfl) (pa_cons (pv 0) (pa_cons (pv 2) pa_nil)) pass0))
      (pss_cons (ps_set (i := 4) sc_cheapest.nd rfl (Or.inl rfl) (pe_lst (pa_cons (pe_callTy (call_dictT rfl hu4) (by rfl) T.dict_ bt_dict (pa_cons (pe_lock (pe_lc (own := [("own", 10)]) rfl sc_cheapest.nd (pi_keys (pe_ix (ixL_ K) (pv 3) pe_int (fun _ _ => rfl))) (blkOk_by (by rfl)) (fun _ _ _ _ _ => (pg_name (i := 10) sc_cheapest.nd rfl (Or.inl rfl))) (fun _ _ _ _ _ => pts_nil) (fun _ _ _ _ _ => (pe_tup (pa_cons (pv 10) (pa_cons pe_int pa_nil)))))) pa_nil)) pa_nil)))
      (pss_cons (ps_for (passes_of rfl) rfl (eT_ K (by rfl) T.enumerate_ (pa_cons (pv 1) pa_nil)) (gT_ K (n := 2) rfl (pgs_cons (pg_name (i := 5) sc_cheapest.nd rfl (Or.inl rfl)) (pgs_cons (pg_name (i := 6) sc_cheapest.nd rfl (Or.inl rfl)) pgs_nil)))
      (pss_cons (ps_set (i := 7) sc_cheapest.nd rfl (Or.inl rfl) pe_dnewT)
      (pss_cons (ps_lock (ps_for (passes_of rfl) rfl (pi_itemsT (pe_ix (ixL_ K) (pv 4) (pe_un un_neg pe_int) (fun _ _ => rfl))) (gT_ K (n := 2) rfl (pgs_cons (pg_name (i := 8) sc_cheapest.nd rfl (Or.inl rfl)) (pgs_cons (pg_name (i := 9) sc_cheapest.nd rfl (Or.inl rfl)) pgs_nil)))
      (pss_one (ps_for (passes_of rfl) rfl (pi_range1 (by rfl) T.range_ (pa_cons (pe_callB (len_ K) (by rfl) T.len_ bt_len (pa_cons (pv 8) pa_nil)) pa_nil)) (pg_name (i := 10) sc_cheapest.nd rfl (Or.inl rfl))
      (pss_cons (ps_par (i := 11) (j := 12) rfl sc_cheapest.nd rfl rfl (by decide) rfl rfl (pa_cons (pe_has h_counts_more hr_counts_more (by rfl) (pa_cons (pv 8) (pa_cons (pv 10) pa_nil)) pass0) (pa_cons (pe_op op_add (pv 9) (pe_callTy call_int1 (by rfl) T.int_ bt_int (pa_cons (pe_cmpR op_ne (pv 10) (pv 6) (nomark _)) pa_nil))) pa_nil)) rfl)
      (pss_one (ps_if (PW.pt (pw_and (pt_cmp (pc_din hu1 (pv 11) (pe_ix (ixL_ K) (pv 3) (pe_op op_add (pv 5) pe_int) (fun _ _ => rfl)))) (pw_and1 (PW.pt (pw_or (pt_cmp (pc_dnotin hu1 (pv 11) (pv 7))) (pw_or1 (pt_cmpR op_lt (pv 12) (pe_dget hu1 (pv 7) (pv 11) (fun _ _ => rfl)) (nomark _))))))))
      (pss_one (ps_dput hu1 (pv 7) (pv 11) (pv 12) rfl))
      pss_nil)))))))
      (pss_one (ps_expr (pe_bm PySem.F.plainAttrs_list PySem.F.slot_list_append PySem.F.type_list_append mt_append (pv 4) (pa_cons (pv 7) pa_nil)))))))
      (pss_one (ps_ret (pv 4)))))), fun σ Dn a0 fin => ?_⟩
  refine tseq_ (a0.evP (ev_call (F := FAll) (ea_cons (ev_var rfl) (ea_cons (ev_var rfl) ea_nil)) ⟨L, W, ls, rfl, hL, hl, h4, rfl⟩) fun v H1 e1 a1 r => ?_)
  obtain ⟨sq, xs0, rfl, eq, rl⟩ := R.lst_ r
  have a2 := a1.set 3 (.adr sq)
  refine gname_ ?_
  dsimp only
  -- found = [dict(..)]
  refine tseq_ ((a2.recall (j := 3) rfl r).eaP (ea_cons (ev_dict (ks := dZ (costAt L ls dr 0)) (ea_cons (ev_lockI (j := 3) (i := 0) rfl (ks := dB (stAt L ls 0)) ?_ ?_ (ev_lcA (stAt L ls 0) keyD (fun c => [some L.d, some (nats dr), some (limsD ls), some (.lst (((List.range (W + 1)).map fun w => D.dct (dB (stAt L ls w))).set 0 (.lkd (dB (stAt L ls 0))))), none, none, none, none, none, none, some (keyD c), none, none]) (fun c => pairD (c, .int 0)) ?_ ?_ ?_ (fun c hc => gd_1) fun c hc => ev_tup (ea_cons (ev_var rfl) (ea_cons ev_int ea_nil)) (by simp))) ea_nil)) ea_nil) fun vs H2 e2 a3' r3 => ?_)
  · rw [List.getElem?_map, List.getElem?_range (by omega)]
    rfl
  · intro y hy
    obtain ⟨p, hp, rfl⟩ := List.mem_map.mp hy
    obtain ⟨c, _, rfl⟩ := List.mem_map.mp hp
    exact .tup (imm2 (keyD_imm _) (.int _))
  · show D.lst ((dZ ((stAt L ls 0).map fun k => (k, 0))).map pairD) = _
    unfold dZ
    rw [List.map_map, List.map_map]
    rfl
  · have := h4 0 (by omega)
    omega
  · refine IvP.is (iv_keys (ks := dB (stAt L ls 0)) (ev_ixL (ev_var rfl) ev_int ?_)) ?_
    · refine atI_nat (j := 0) ?_
      rw [List.getElem?_set_self (by rw [List.length_map, List.length_range]; omega)]
    · unfold dB
      rw [List.map_map]
      rfl
  obtain ⟨v0, rfl, rv0⟩ := r3.one_
  rw [mergeD_nodup (by rw [dZ_keys]; exact (costAt_ok L ls dr 0).1)] at rv0
  obtain ⟨c0, rfl, hc0⟩ := dctZ_of rv0
  have a3 := a2.same' e2
  have rs2 : R true (Gx [] (tups H) H H2) (.ref sq) (stsD L ls W) := r.same (a2.up (.of e2) a3.own)
  refine ⟨sz_of (by simp), fun q hq => ?_⟩
  obtain ⟨a4', hqA, hq0⟩ := a3.own_ (o := .lst [.ref c0]) hq trivial
  have u2 := gx_own (o := .lst [.ref c0]) a3.gsub hq
  have a4 := a4'.set 4 (.adr q)
  have hF0 : FoundZ (costAt L ls dr) 1 (Gx [q] (tups H) H (upd H2 q (.lst [.ref c0]))) [.ref c0] := ⟨rfl, fun j hj => by
    have : j = 0 := by omega
    subst this
    exact ⟨c0, rfl, u2 _ _ hc0⟩⟩
  refine gname_ ?_
  dsimp only
  have him : ∀ {x5 x6 x7 : Option D}, (∀ d, x5 = some d → Imm d) → (∀ d, x6 = some d → Imm d) → (∀ d, x7 = some d → Imm d) → AllImm [some L.d, some (nats dr), some (limsD ls), some (.adr sq), some (.adr q), x5, x6, x7, none, none, none, none, none] := fun {x5 x6 x7} h5 h6 h7 i d e => by
    match i, e with
    | 0, e => cases e; exact L.imm
    | 1, e => cases e; exact nats_imm dr
    | 2, e => cases e; exact limsD_imm ls
    | 3, e => cases e; exact .adr sq
    | 4, e => cases e; exact .adr q
    | 5, e => exact h5 d (by simpa using e)
    | 6, e => exact h6 d (by simpa using e)
    | 7, e => exact h7 d (by simpa using e)
    | 8, e => cases e
    | 9, e => cases e
    | 10, e => cases e
    | 11, e => cases e
    | 12, e => cases e
    | n + 13, e => simp at e
  -- for place, pane in enumerate(drawing)
  refine tseq_ (a4.forG (fun i G C ps => ∃ xs, C q = some (.lst xs) ∧ FoundZ (costAt L ls dr) (i + 1) G xs ∧ R true G (.ref sq) (stsD L ls W) ∧ ps = [some L.d, some (nats dr), some (limsD ls), some (.adr sq), some (.adr q), none, none, none, none, none, none, none, none]) (fun i G G' C ps ⟨xs, h1, h2, h3, h4⟩ s => ⟨xs, h1, h2.mono s, h3.same s, h4⟩)
    (IvP.is (iv_enumT (ea_cons (ev_var rfl) ea_nil)) (enum_map _ dr)) ⟨_, upd_same, hF0, rs2.same u2, rfl⟩ (fun H3 i dd σ' H' v' C' ps' f1 hdd f2 a5 ⟨xs, hc, hF, hS, hps⟩ r5 => ?_) fun σ' H' C' ps' f1 a5 ⟨xs, hc, hF, hS, hps⟩ => ?_)
  · -- a pixel's turn
    subst hps
    rw [List.getElem?_map] at hdd
    obtain ⟨⟨pn, i'⟩, hz, rfl⟩ := Option.map_eq_some_iff.mp hdd
    rw [List.getElem?_zipIdx] at hz
    obtain ⟨pn', hpn, hz⟩ := Option.map_eq_some_iff.mp hz
    cases hz
    have hi : i < W := by
      have := (List.getElem?_eq_some_iff.mp hpn).1
      rw [hd.1] at this
      exact this
    have hgd : dr.getD i 0 = pn := by
      rw [List.getD_eq_getElem?_getD, hpn]
      rfl
    rw [Nat.zero_add] at r5
    refine a5.gd (vs := [5, 6]) (gd_tup (gs_cons gd_name (gs_cons gd_name gs_nil)) rfl) r5 fun σ2 a6 => ?_
    refine tseq_ (fun p hp => ?_)
    obtain ⟨a7', hpA, hp0⟩ := a6.own_ (o := .dT []) hp trivial
    have a7 := a7'.set 7 (.adr p)
    have u7 := gx_own (o := .dT []) a6.gsub hp
    have hF7 := hF.mono u7
    have hS7 := hS.same u7
    obtain ⟨a, hxa, hGa⟩ := hF7.2 i (by omega)
    have hpq : p ≠ q := fun z => hpA (by rw [z]; exact List.mem_singleton.mpr rfl)
    have hqm : q ∈ [p, q] := by simp
    have hpm : p ∈ [p, q] := by simp
    have haA : a ∉ [p, q] := fun m => by rw [gx_out a m] at hGa; cases hGa
    have ha0 : H a = none := gx_new hGa trivial
    have hcq : (upd C' p (.dT [])) q = some (.lst xs) := by rw [upd_ne hpq.symm]; exact hc
    refine gname_ ?_
    dsimp only
    have himx : AllImm [some L.d, some (nats dr), some (limsD ls), some (.adr sq), some (.adr q), some (.int (i : Nat)), some (.int ((pn : Nat) : Int)), some (.adr p), none, none, none, none, none] := him (fun d e => by cases e; exact .int _) (fun d e => by cases e; exact .int _) (fun d e => by cases e; exact .adr p)
    refine tseq_ (a7.lockFor (d := a) (kvs := kvZ (costAt L ls dr i)) (items := (dZ (costAt L ls dr i)).map fun p => .tup [keyD p.1, p.2]) (fun k C ps => C q = some (.lst xs) ∧ C p = some (.dT (kvZ (((costAt L ls dr i).take k).foldl (turnC (stAt L ls (i + 1)) pn) []))) ∧ ps = [some L.d, some (nats dr), some (limsD ls), some (.adr sq), some (.adr q), some (.int (i : Nat)), some (.int ((pn : Nat) : Int)), some (.adr p), none, none, none, none, none])
      ha0 haA (a7.gsub _ _ hGa) himx (fun k C ps ⟨_, _, e⟩ => by subst e; exact himx)
      (fun od Rr G hG hR => ?_) ⟨hcq, upd_same, rfl⟩ (fun od E2 H4 k x σ3 H5 y C2 ps2 hE hx hsub f3 a8 ⟨g1, g2, g3⟩ r8 => ?_) fun σ3 H5 C2 ps2 f3 a8 ⟨g1, g2, g3⟩ => ?_)
    · -- the source
      obtain ⟨v4, ev4, rv4⟩ := a7.sl.2 4 _ rfl
      cases rv4.adr_
      have hne : a ≠ q := fun z => haA (by rw [z]; exact hqm)
      have hl : (upd (upd H' p (.dT [])) a (.frz od (.dT (kvZ (costAt L ls dr i))))) q = some (.lst xs) := by
        rw [upd_ne hne.symm, a7.own.at hqm]
        exact hcq
      refine ⟨.ref q, ev4, 1, rfl, q, xs, -1, .ref a, rfl, rfl, SqL.of hl, ?_, a, od, _, rfl, upd_same, hR _ (walk_items hG (rk_Z _))⟩
      have hne0 : xs ≠ [] := fun z => by
        have := hF.1
        rw [z] at this
        simp at this
      obtain ⟨l0, z0, hz0⟩ : ∃ l z, xs = l ++ [z] := ⟨_, _, (List.dropLast_concat_getLast hne0).symm⟩
      have hl0 : l0.length = i := by
        have := hF.1
        rw [hz0, List.length_append] at this
        simpa using this
      rw [hz0, List.getElem?_append_right (by omega), hl0] at hxa
      have : z0 = .ref a := by simpa using hxa
      rw [hz0, this, atI_last]
    · -- a state's turn
      subst g3
      rw [List.getElem?_map] at hx
      obtain ⟨kd, hkd, rfl⟩ := Option.map_eq_some_iff.mp hx
      unfold dZ at hkd
      rw [List.getElem?_map] at hkd
      obtain ⟨cc, hcc, rfl⟩ := Option.map_eq_some_iff.mp hkd
      have hcm : cc.1 ∈ stAt L ls i := (costAt_ok L ls dr i).2 _ (List.mem_map.mpr ⟨cc, List.mem_of_getElem? hcc, rfl⟩)
      have hcl : cc.1.length = L.rows.length := stAt_len i _ hcm
      have h4' := h4 (i + 1) (by omega)
      have hS8 : R false (Gx [p, q] (tups H) H H5) (.ref sq) (stsD L ls W) := (hS7.mono (lockR hGa)).same hsub
      refine a8.gd (vs := [8, 9]) (gd_tup (gs_cons gd_name (gs_cons gd_name gs_nil)) rfl) r8 fun σ5 a9 => ?_
      refine a9.forG (fun m G C ps => C q = some (.lst xs) ∧ C p = some (.dT (kvZ ((List.range m).foldl (fun later own => addC (stAt L ls (i + 1)) pn later cc own) (((costAt L ls dr i).take k).foldl (turnC (stAt L ls (i + 1)) pn) [])))) ∧ R false G (.ref sq) (stsD L ls W) ∧ ps = [some L.d, some (nats dr), some (limsD ls), some (.adr sq), some (.adr q), some (.int (i : Nat)), some (.int ((pn : Nat) : Int)), some (.adr p), some (keyD cc.1), some (.int cc.2), none, none, none])
        (fun i G G' C ps ⟨h1, h2, h3, h4⟩ s => ⟨h1, h2, h3.same s, h4⟩) (IvP.is (iv_rng1 (n := cc.1.length) (ea_cons (ev_lenT (ea_cons (ev_var rfl) ea_nil)) ea_nil) (by simp) (by simp; omega)) (rng0 _)) ⟨g1, g2, hS8, rfl⟩ (fun H6 m dm σ6 H7 ym C3 ps3 f4 hm f5 b1 ⟨m1, m2, m4, m3⟩ rm => ?_) fun σ6 H7 C3 ps3 f4 b1 ⟨m1, m2, m4, m3⟩ => ?_
      · subst m3
        have hmm : m < cc.1.length := by
          have := (List.getElem?_eq_some_iff.mp hm).1
          simpa using this
        have hdm : dm = .int (m : Nat) := by
          rw [List.getElem?_map, List.getElem?_range hmm] at hm
          exact (Option.some.inj hm).symm
        subst hdm
        have hK : KeyOk (stAt L ls (i + 1)) ((List.range m).foldl (fun later own => addC (stAt L ls (i + 1)) pn later cc own) (((costAt L ls dr i).take k).foldl (turnC (stAt L ls (i + 1)) pn) [])) := KeyOk.adds _ (KeyOk.turns _ KeyOk.nil)
        have hKl := hK.len
        generalize hlt : (List.range m).foldl (fun later own => addC (stAt L ls (i + 1)) pn later cc own) (((costAt L ls dr i).take k).foldl (turnC (stAt L ls (i + 1)) pn) []) = later at hK hKl m2
        refine b1.gd gd_1 rm fun σ7 b2 => ?_
        refine tseq_ (b2.eaP (ea_cons (ev_call (F := FMore) (ea_cons (ev_var rfl) (ea_cons (ev_var rfl) ea_nil)) ⟨cc.1, m, rfl, hmm, by omega, rfl⟩) (ea_cons (EvP.is (e := .int (costZ cc.2 m pn)) (ev_add (ev_var rfl) (ev_intB (ea_cons (ev_neI (ev_var rfl) (ev_var rfl)) ea_nil))) ?_) ea_nil)) fun vs7 H8 e7 b3 r7 => ?_)
        · unfold costZ
          congr 2
          by_cases h : m = pn
          · rw [decide_eq_true h, decide_eq_true (by rw [h])]
          · rw [decide_eq_false h, decide_eq_false (by omega)]
        obtain ⟨w1', w2', rfl, q1, q2⟩ := r7.two_
        refine ⟨w1', w2', rfl, ?_⟩
        have b4 := (b3.set 11 q1).set 12 q2
        have hS9 := m4.same (b2.up (.of e7) b3.own)
        dsimp only
        have b5 := b4.recall (j := 3) rfl hS9
        refine b5.et (c := decide (moreZ cc.1 m ∈ stAt L ls (i + 1)) && (!(lookZ later (moreZ cc.1 m)).isSome || ltZ later (moreZ cc.1 m) (costZ cc.2 m pn))) (etx_and (EtP.x (EtP.is (et_B (ev_din (ev_var rfl) (ev_ixL (ev_var rfl) (ev_add (ev_var rfl) ev_int) (atI_rng (f := fun w => D.dct (dB (stAt L ls w))) (i := i + 1) (by omega))) rfl)) valDB)) fun _ => etx_or (etx_B (EvX.is (evx_dnotinO hpm m2 (ev_var rfl) (ev_var rfl)) ?_)) fun hz => ?_) fun H9 f9 b6 => ?_
        · rw [valZ]
          cases lookZ later (moreZ cc.1 m) <;> rfl
        · cases hlk : lookZ later (moreZ cc.1 m) with
          | none => rw [hlk] at hz; cases hz
          | some u =>
            have hlz : ltZ later (moreZ cc.1 m) (costZ cc.2 m pn) = decide (costZ cc.2 m pn < u) := by
              unfold ltZ
              rw [hlk]
            rw [hlz]
            exact etx_test (evx_lt (EvP.x (ev_var rfl)) (evx_dgetO hpm m2 (ev_var rfl) (ev_var rfl) (by rw [valZ, hlk]; rfl)))
        have b7 := b4.mono f9 b6.own
        have hS10 := hS9.same (b4.up f9 b6.own)
        have fpre : SameX [p, q] H6 H9 := (f5.trans (.of e7)).trans f9
        have hstep : (List.range (m + 1)).foldl (fun later own => addC (stAt L ls (i + 1)) pn later cc own) (((costAt L ls dr i).take k).foldl (turnC (stAt L ls (i + 1)) pn) []) = addC (stAt L ls (i + 1)) pn later cc m := by
          rw [List.range_succ, List.foldl_append, hlt]
          rfl
        by_cases hb : (decide (moreZ cc.1 m ∈ stAt L ls (i + 1)) && (!(lookZ later (moreZ cc.1 m)).isSome || ltZ later (moreZ cc.1 m) (costZ cc.2 m pn))) = true
        · rw [hb, if_pos rfl]
          have hadd : addC (stAt L ls (i + 1)) pn later cc m = putZ later (moreZ cc.1 m) (costZ cc.2 m pn) := if_pos hb
          refine b7.dput (key := moreZ cc.1 m) hpm m2 (by unfold kvZ; rw [List.length_map]; omega) (ev_var rfl) (ev_var rfl) (ev_var rfl) fun v9 H10 f10 b8 r10 => ?_
          refine ⟨fpre.trans f10, _, _, b8.fgt [10, 11, 12] rfl, ?_, ?_, hS10.same (b7.up f10 b8.own), rfl⟩
          · rw [upd_ne hpq.symm]; exact m1
          · rw [upd_same, r10.int_, hstep, hadd, kvZ_put]
        · have hb' : (decide (moreZ cc.1 m ∈ stAt L ls (i + 1)) && (!(lookZ later (moreZ cc.1 m)).isSome || ltZ later (moreZ cc.1 m) (costZ cc.2 m pn))) = false := Bool.eq_false_iff.mpr hb
          have hadd : addC (stAt L ls (i + 1)) pn later cc m = later := if_neg hb
          rw [hb', if_neg (by decide)]
          exact ⟨fpre, _, _, b7.fgt [10, 11, 12] rfl, m1, by rw [hstep, hadd]; exact m2, hS10, rfl⟩
      · subst m3
        rw [List.length_map, List.length_range] at m2
        rw [hE]
        refine ⟨f3.trans f4, _, _, b1.fgt [8, 9] rfl, m1, ?_, rfl⟩
        have ht : (costAt L ls dr i).take (k + 1) = (costAt L ls dr i).take k ++ [cc] := by
          rw [List.take_add_one, hcc]
          rfl
        rw [ht, List.foldl_append]
        exact m2
    · -- behind the lock
      subst g3
      have hlate : ((costAt L ls dr i).take ((dZ (costAt L ls dr i)).map fun p => D.tup [keyD p.1, p.2]).length).foldl (turnC (stAt L ls (i + 1)) pn) [] = costAt L ls dr (i + 1) := by
        rw [List.length_map]
        unfold dZ
        rw [List.length_map, List.take_length]
        show _ = (costAt L ls dr i).foldl (turnC (stAt L ls (i + 1)) (dr.getD i 0)) []
        rw [hgd]
      rw [hlate] at g2
      refine a8.append (p := q) rfl hqm g1 (by have := hF.1; omega) ((ev_var (d := .adr p) rfl).x) g1 fun v6 H6 f6 b1 r8 => ?_
      cases r8.adr_
      obtain ⟨b2, up9, ep9⟩ := b1.rel hpA hp0
      have hpH1 : H3 p = none := by
        cases e : H3 p with
        | none => rfl
        | some u =>
          have hpq' : p ∉ [q] := hpA
          rw [f2 p u hpq' e] at hp; cases hp
      have ftot : SameX [p, q] H3 H6 := (((sameX_more f2).trans (SameX.of (same_upd hp))).trans f3).trans f6
      have u9 := ((a7.up f3 a8.own).trans (a8.up f6 b1.own)).trans up9
      refine ⟨sameX_drop ftot hpH1, _, _, b2.fgt [5, 6, 7] rfl, xs ++ [.ref p], by rw [upd_same], ?_, hS7.same u9, rfl⟩
      have hF6 : FoundZ (costAt L ls dr) (i + 1) (Gx [q] (tups H) H H6) xs := hF7.mono u9
      refine ⟨by rw [List.length_append, hF.1]; rfl, fun j hj => ?_⟩
      by_cases hj' : j < i + 1
      · obtain ⟨b0, h1, h2⟩ := hF6.2 j hj'
        exact ⟨b0, by rw [List.getElem?_append_left (by rw [hF.1]; exact hj')]; exact h1, h2⟩
      · have : j = i + 1 := by omega
        subst this
        refine ⟨p, ?_, ?_⟩
        · rw [List.getElem?_append_right (by rw [hF.1]; exact Nat.le_refl _), hF.1]
          simp
        · rw [ep9, upd_ne hpq]
          exact g2
  · -- return found
    subst hps
    obtain ⟨v, ev, rv⟩ := a5.sl.2 4 _ rfl
    cases rv.adr_
    refine ⟨.ref q, ev, ?_⟩
    obtain ⟨b2, up, eq4⟩ := a5.rel (by simp) hq0
    have z := (hF.mono up).rl (b := true)
    rw [List.length_map, List.length_zipIdx, hd.1] at z
    exact fin _ _ (b2.sameN fun c m => nomatch m) (b2.newV (.lst (by rw [eq4]; exact hc) z) (fun c m => nomatch m))
end
end SP
set_option Elab.async false
set_option linter.all false
set_option maxRecDepth 100000
set_option maxHeartbeats 1000000
/-! Stillpanes: step_back, is_kept, is_drawing_of, out_at. -/
namespace SP
open PySem L2 PySem.Spec PyProof.Rows
section
variable {P : Program} {w : World} {K : PySem.W.Frag} {mg : Str → Option Value} {base : Heap}
theorem rng_items {n : Nat} {i : Nat} {d : D} (h : ((List.range n).map fun (i : Nat) => D.int (i : Int))[i]? = some d) : i < n ∧ d = .int (i : Int) := by
  have hi : i < n := by
    have := (List.getElem?_eq_some_iff.mp h).1
    simpa using this
  rw [List.getElem?_map, List.getElem?_range hi] at h
  exact ⟨hi, (Option.some.inj h).symm⟩
/-! ### step_back -/
def backB (cs : Cost) (c : List Int) (cost : Int) (p own : Nat) : Bool := decide (lookZ cs (lessZ c own) = some (cost - (if (!decide (own = p)) = true then 1 else 0)))
def backO (cs : Cost) (c : List Int) (cost : Int) (p : Nat) : Option Nat := (List.range c.length).find? (backB cs c cost p)
def optN : Option Nat → D
  | none => .non
  | some n => .int (n : Int)
def FBack (ds : List D) (d : D) : Prop := ∃ (cs : Cost) (c : List Int) (cost : Int) (p : Nat), ds = [.dct (dZ cs), keyD c, .int cost, .int (p : Int)] ∧ c.length ≤ 1000 ∧ d = optN (backO cs c cost p)
theorem lessZ_len (c : List Int) (p : Nat) : (lessZ c p).length = c.length := by unfold lessZ; simp
theorem find_first {bad : Nat → Bool} {n i : Nat} (hi : i < n) (hb : bad i = true) (hj : ∀ j, j < i → bad j = false) : (List.range n).find? bad = some i := by
  rw [List.find?_eq_some_iff_getElem]
  refine ⟨hb, i, by simpa using hi, by simp, fun j hj' => ?_⟩
  simp [hj j hj']
theorem find_none' {bad : Nat → Bool} {n : Nat} (h : ∀ i, i < n → bad i = false) : (List.range n).find? bad = none := by
  rw [List.find?_eq_none]
  intro x hx
  rw [h x (List.mem_range.mp hx)]
  decide
theorem sc_step_back : FnScope ["ahead", "counts", "cost", "pane", "own"] ["ahead", "counts", "cost", "pane"] (defScope (top 18)) := ⟨rfl, rfl, rfl, by decide +kernel, rfl, by decide +kernel, by decide +kernel⟩
theorem ok_step_back (T : Txt mg) (h_less_one : Has P w K mg base "less_one" ["counts", "pane"] 1 (SpR FLess)) {f : Addr} {fd : FuncData} (Fn : Fun K "step_back" "step_back" (top 18) f fd) : FnOk P w K mg base (L2.CX P w) 2 f fd ["ahead", "counts", "cost", "pane"] (SpR FBack) := by
  refine ok_imm (k := 1) Fn sc_step_back (fun ds d ⟨cs, c, cost, p, e, _, ed⟩ => by
    subst e ed
    refine ⟨rfl, ?_⟩
    cases backO cs c cost p with
    | none => exact .non
    | some n => exact .int _) fun cdv A outer s H E ds d hr ⟨cs, c, cost, p, e, h1, ed⟩ => ?_
  subst e ed
  have hr_less_one := hr
  have hu1 := un_of (n := 1) hr
  refine ⟨_, (pss_cons (ps_for (passes_of rfl) rfl (pi_range1 (by rfl) T.range_ (pa_cons (pe_callB (len_ K) (by rfl) T.len_ bt_len (pa_cons (pv 1) pa_nil)) pa_nil)) (pg_name (i := 4) sc_step_back.nd rfl (Or.inl rfl))
      (pss_one (ps_if (pt_cmpR op_eq (pe_dget1 hu1 (pv 0) (pe_has h_less_one hr_less_one (by rfl) (pa_cons (pv 1) (pa_cons (pv 4) pa_nil)) pass0) ⟨rfl, rfl, rfl, rfl⟩) (pe_op op_sub (pv 2) (pe_callTy call_int1 (by rfl) T.int_ bt_int (pa_cons (pe_cmpR op_ne (pv 4) (pv 3) (nomark _)) pa_nil))) (nomark _))
      (pss_one (ps_ret (pv 4)))
      pss_nil)))
      (pss_one (ps_ret pe_non))), ?_⟩
  refine sd_ixS (vs := [4]) (fun _ => [some (.dct (dZ cs)), some (keyD c), some (.int cost), some (.int (p : Int)), none]) (backB cs c cost p) (fun i => .rt (.int (i : Int))) [4] (IvP.is (iv_rng1 (n := c.length) (ea_cons (ev_lenT (ea_cons (ev_var rfl) ea_nil)) ea_nil) (by simp) (by simp; omega)) (rng0 _)) rfl (fun i d hd hj => ?_) (fun _ _ z => nomatch z) (fun i hi hb hj => ?_) (fun hall => ?_)
  · obtain ⟨hi, rfl⟩ := rng_items hd
    refine ⟨_, [some (.dct (dZ cs)), some (keyD c), some (.int cost), some (.int (p : Int)), some (.int (i : Int))], gd_1, rfl, sd_ifB (c := backB cs c cost p i) (et_test ?_) (fun _ => sd_ret (ev_var rfl)) fun _ => sd_next⟩
    have hg := ev_dget1 (b := false) (ps := [some (.dct (dZ cs)), some (keyD c), some (.int cost), some (.int (p : Int)), some (.int (i : Int))]) (td := tVar 0) (d := .dct (dZ cs)) (ev_var rfl) rfl (ev_call (F := FLess) (E := fun _ => E0) (t := tCons (tVar 1) (tCons (tVar 4) tNil)) (ea_cons (ev_var rfl) (ea_cons (ev_var rfl) ea_nil)) ⟨c, i, rfl, hi, h1, rfl⟩)
    have hs : EvP false [some (.dct (dZ cs)), some (keyD c), some (.int cost), some (.int (p : Int)), some (.int (i : Int))] (tOp (rI0 fun i j => .int (i - j)) (tVar 2) (tCB rIntQ (tCons (tOp rNe (tVar 4) (tVar 3)) tNil))) (.int (cost - (if (!decide (i = p)) = true then 1 else 0))) := EvP.is (ev_sub (ev_var rfl) (ev_intB (ea_cons (ev_neI (ev_var rfl) (ev_var rfl)) ea_nil))) (by
      congr 2
      by_cases h : i = p
      · rw [decide_eq_true h, decide_eq_true (by rw [h])]
      · rw [decide_eq_false h, decide_eq_false (by omega)])
    rw [valDZ] at hg
    unfold backB
    cases hl : lookZ cs (lessZ c i) with
    | none =>
      rw [hl] at hg
      exact EvP.is (ev_eqNI hg hs) (by simp)
    | some v =>
      rw [hl] at hg
      exact EvP.is (ev_eqI hg hs) (by simp)
  · rw [List.length_map, List.length_range] at hi
    rw [show backO cs c cost p = some i from find_first hi hb hj]
    rfl
  · rw [show backO cs c cost p = none from find_none' fun i hi => hall i (by rw [List.length_map, List.length_range]; exact hi)]
    exact sd_ret ev_non
/-! ### is_kept -/
/-- the counts behind i pixels -/
def cntAt (n : Nat) (d : List Nat) (i : Nat) : List Int := (d.take i).foldl moreZ (List.replicate n 0)
theorem cntAt_succ {n : Nat} {d : List Nat} {i p : Nat} (h : d[i]? = some p) : cntAt n d (i + 1) = moreZ (cntAt n d i) p := by
  unfold cntAt
  rw [List.take_add_one, h, List.foldl_append]
  rfl
theorem cntAt_len (n : Nat) (d : List Nat) (i : Nat) : (cntAt n d i).length = n := by
  unfold cntAt
  have : ∀ (ps : List Nat) (c : List Int), (ps.foldl moreZ c).length = c.length := by
    intro ps
    induction ps with
    | nil => intro c; rfl
    | cons p ps ih => intro c; rw [List.foldl_cons, ih, moreZ_len]
  rw [this]
  simp
def keptB (L : Lay) (ls : List (List Nat × Int)) (d : List Nat) : Bool := (List.range d.length).all fun i => within L ls (i + 1) (cntAt L.rows.length d (i + 1))
def FIsKept (ds : List D) (d : D) : Prop := ∃ (L : Lay) (W : Nat) (ls : List (List Nat × Int)) (a : List Nat), ds = [L.d, nats a, limsD ls] ∧ L.Ok W ∧ LimsOk L ls ∧ DrawOk L W a ∧ d = .bl (keptB L ls a)
theorem enum_item {α : Type} {g : α → D} {l : List α} {i : Nat} {d : D} (h : (l.zipIdx.map fun p => D.tup [.int (p.2 : Nat), g p.1])[i]? = some d) : ∃ x, l[i]? = some x ∧ d = .tup [.int (i : Nat), g x] := by
  rw [List.getElem?_map] at h
  obtain ⟨⟨x, j⟩, hz, rfl⟩ := Option.map_eq_some_iff.mp h
  rw [List.getElem?_zipIdx] at hz
  obtain ⟨y, hy, hz⟩ := Option.map_eq_some_iff.mp hz
  cases hz
  exact ⟨x, hy, by rw [Nat.zero_add]⟩
theorem sc_is_kept : FnScope ["layout", "drawing", "limits", "counts", "place", "pane"] ["layout", "drawing", "limits"] (defScope (top 20)) := ⟨rfl, rfl, rfl, by decide +kernel, rfl, by decide +kernel, by decide +kernel⟩
theorem ok_is_kept (T : Txt mg) (h_counts_more : Has P w K mg base "counts_more" ["counts", "pane"] 1 (SpR FMore)) (h_is_within : Has P w K mg base "is_within" ["layout", "limits", "width", "counts"] 1 (SpR FWithin)) {f : Addr} {fd : FuncData} (Fn : Fun K "is_kept" "is_kept" (top 20) f fd) : FnOk P w K mg base (L2.CX P w) 2 f fd ["layout", "drawing", "limits"] (SpR FIsKept) := by
  refine ok_imm (k := 1) Fn sc_is_kept (fun ds d ⟨L, W, ls, a, e, _, _, _, ed⟩ => by subst e ed; exact ⟨rfl, .bl _⟩) fun cdv A outer s H E ds d hr ⟨L, W, ls, a, e, hL, hl, ha, ed⟩ => ?_
  subst e ed
  have hr_counts_more := hr
  have hr_is_within := hr
  have n1 := hL.n1
  refine ⟨_, (pss_cons (ps_set (i := 3) sc_is_kept.nd rfl (Or.inl rfl) (pe_op (repT_ K) (pe_tup (pa_cons pe_int pa_nil)) (pe_callB (len_ K) (by rfl) T.len_ bt_len (pa_cons (pe_ix (ixT_ K) (pv 0) pe_int (fun _ _ => rfl)) pa_nil))))
      (pss_cons (ps_for (passes_of rfl) rfl (eT_ K (by rfl) T.enumerate_ (pa_cons (pv 1) pa_nil)) (gT_ K (n := 2) rfl (pgs_cons (pg_name (i := 4) sc_is_kept.nd rfl (Or.inl rfl)) (pgs_cons (pg_name (i := 5) sc_is_kept.nd rfl (Or.inl rfl)) pgs_nil)))
      (pss_cons (ps_set (i := 3) sc_is_kept.nd rfl (Or.inl rfl) (pe_has h_counts_more hr_counts_more (by rfl) (pa_cons (pv 3) (pa_cons (pv 5) pa_nil)) pass0))
      (pss_one (ps_if (pt_not (pt_val (pe_has h_is_within hr_is_within (by rfl) (pa_cons (pv 0) (pa_cons (pv 2) (pa_cons (pe_op op_add (pv 4) pe_int) (pa_cons (pv 3) pa_nil)))) pass0)))
      (pss_one (ps_ret pe_bl))
      pss_nil))))
      (pss_one (ps_ret pe_bl)))), ?_⟩
  refine sd_seq (sd_set (ev_zeros hL (ev_many (ev_var rfl)))) ?_
  refine sd_ixS (vs := [4, 5]) (fun i => [some L.d, some (nats a), some (limsD ls), some (keyD (cntAt L.rows.length a i)), none, none]) (fun i => !within L ls (i + 1) (cntAt L.rows.length a (i + 1))) (fun i => .rt (.bl false)) [4, 5] (IvP.is (iv_enumT (ea_cons (ev_var rfl) ea_nil)) (enum_map _ a)) rfl (fun i d hd hj => ?_) (fun _ _ z => nomatch z) (fun i hi hb hj => ?_) (fun hall => ?_)
  · obtain ⟨p, hp, rfl⟩ := enum_item (g := fun (n : Nat) => D.int (n : Int)) hd
    have hpm : p < L.rows.length := ha.2 p (List.mem_of_getElem? hp)
    have hiW : i < W := by
      rw [← ha.1]
      exact (List.getElem?_eq_some_iff.mp hp).1
    refine ⟨_, [some L.d, some (nats a), some (limsD ls), some (keyD (cntAt L.rows.length a (i + 1))), some (.int (i : Nat)), some (.int ((p : Nat) : Int))], gd_tup (gs_cons gd_name (gs_cons gd_name gs_nil)) rfl, rfl, sd_seq (sd_set (d := keyD (cntAt L.rows.length a (i + 1))) (ev_call (F := FMore) (ea_cons (ev_var rfl) (ea_cons (ev_var rfl) ea_nil)) ⟨cntAt L.rows.length a i, p, rfl, by rw [cntAt_len]; exact hpm, by rw [cntAt_len]; omega, by rw [cntAt_succ hp]⟩)) (sd_ifB (et_not (et_B (ev_call (F := FWithin) (ea_cons (ev_var rfl) (ea_cons (ev_var rfl) (ea_cons (ev_add (ev_var rfl) ev_int) (ea_cons (ev_var rfl) ea_nil)))) ⟨L, W, ls, i + 1, _, rfl, hL, hl, by omega, by rw [cntAt_len], rfl⟩))) (fun _ => sd_ret ev_bl) fun _ => sd_next)⟩
  · congr 2
    unfold keptB
    rw [List.length_map, List.length_zipIdx] at hi
    apply Bool.eq_false_iff.mpr
    intro z
    have := List.all_eq_true.mp z i (List.mem_range.mpr hi)
    rw [this] at hb
    cases hb
  · refine sd_ret (EvP.is ev_bl ?_)
    congr 1
    unfold keptB
    symm
    rw [List.all_eq_true]
    intro i hi
    have := hall i (by rw [List.length_map, List.length_zipIdx]; exact List.mem_range.mp hi)
    simpa using this
end
end SP
set_option Elab.async false
set_option linter.all false
set_option maxRecDepth 100000
set_option maxHeartbeats 1000000
/-! Stillpanes: is_drawing_of, out_at. -/
namespace SP
open PySem L2 PySem.Spec PyProof.Rows
/-- the own class CanNot, at C -/
structure XCan (K : PySem.W.Frag) (mg : Str → Option Value) (C : Addr) : Prop where
  q : PySem.W.excIn K C [.type "ValueError", .type "Exception", .type "BaseException", .type "object"] "ValueError.__new__" = true
  g : mg "CanNot" = some (.ref C)
  k : PySem.W.keepIn K (.ref C) = true
  sub : PySem.W.subIn K (.ref C) (.type "BaseException") = some true
  typ : PySem.W.typeIn K (.ref C) = some (.type "type")
section
variable {P : Program} {w : World} {K : PySem.W.Frag} {mg : Str → Option Value} {base : Heap}
/-! ### is_drawing_of -/
def drawB (L : Lay) (W : Nat) (t : List Nat) : Bool := decide (t.length = W) && t.all fun p => decide (p < L.rows.length)
def FIsDraw (ds : List D) (d : D) : Prop := ∃ (L : Lay) (W : Nat) (x : D), ds = [L.d, x] ∧ L.Ok W ∧ ((∃ t : List Nat, x = nats t ∧ t.length ≤ 1000 ∧ d = .bl (drawB L W t)) ∨ ((∃ n, x.tyN = some n ∧ kitB n "tuple" = some false) ∧ d = .bl false))
theorem sc_is_drawing_of : FnScope ["layout", "thing", "pane"] ["layout", "thing"] (defScope (top 21)) := ⟨rfl, rfl, rfl, by decide +kernel, rfl, by decide +kernel, by decide +kernel⟩
theorem ok_is_drawing_of (T : Txt mg) (h_is_from : Has P w K mg base "is_from" ["thing", "least"] 2 (SpR FFrom)) {f : Addr} {fd : FuncData} (Fn : Fun K "is_drawing_of" "is_drawing_of" (top 21) f fd) : FnOk P w K mg base (L2.CX P w) 3 f fd ["layout", "thing"] (SpR FIsDraw) := by
  refine ok_imm (k := 2) Fn sc_is_drawing_of (fun ds d ⟨L, W, x, e, _, h⟩ => by
    subst e
    refine ⟨rfl, ?_⟩
    rcases h with ⟨t, _, _, rfl⟩ | ⟨_, rfl⟩
    · exact .bl _
    · exact .bl _) fun cdv A outer s H E ds d hr ⟨L, W, x, e, hL, h⟩ => ?_
  subst e
  have hr_is_from := hr
  have n0 := hL.n0
  have n1 := hL.n1
  have w1 := hL.w1
  refine ⟨_, (pss_cons (ps_if (PW.pt (pw_or (pt_not (pt_val (pe_callB (isi_ K) (by rfl) T.isinstance_ bt_isinstance (pa_cons (pv 1) (pa_cons (pe_bltn (v := .ty "tuple") (by rfl) T.tuple_ bt_tuple rfl) pa_nil))))) (pw_or1 (pt_cmpR op_ne (pe_callB (len_ K) (by rfl) T.len_ bt_len (pa_cons (pv 1) pa_nil)) (pe_op op_sub (pe_callB (len_ K) (by rfl) T.len_ bt_len (pa_cons (pe_ix (ixT_ K) (pe_ix (ixT_ K) (pv 0) pe_int (fun _ _ => rfl)) pe_int (fun _ _ => rfl)) pa_nil)) pe_int) (nomark _)))))
      (pss_one (ps_ret pe_bl))
      pss_nil)
      (pss_one (ps_ret (pe_callB (all_ K rfl) (by rfl) T.all_ bt_all (pa_cons (pe_lc (own := [("pane", 2)]) rfl sc_is_drawing_of.nd (iT_ K (pv 1)) (blkOk_by (by rfl)) (fun _ _ _ _ _ => (pg_name (i := 2) sc_is_drawing_of.nd rfl (Or.inl rfl))) (fun _ _ _ _ _ => pts_nil) (fun _ _ _ _ _ => (pe_and (pe_has h_is_from hr_is_from (by rfl) (pa_cons (pv 2) (pa_cons pe_int pa_nil)) pass0) (pe_one (pe_cmpR op_lt (pv 2) (pe_callB (len_ K) (by rfl) T.len_ bt_len (pa_cons (pe_ix (ixT_ K) (pv 0) pe_int (fun _ _ => rfl)) pa_nil)) (nomark _)))))) pa_nil))))), ?_⟩
  rcases h with ⟨t, rfl, ht, rfl⟩ | ⟨⟨n, hn, hk⟩, rfl⟩
  · refine sd_ifThen (et_or (c := false) (k := !decide (t.length = W)) (EtP.is (et_not (et_B (ev_isi (ea_cons (ev_var rfl) (ea_cons ev_cls ea_nil)) rfl (by decide +kernel : kitB "tuple" "tuple" = some true)))) rfl) fun _ => et_test (EvP.is (ev_neI (ev_lenT (ea_cons (ev_var rfl) ea_nil)) (ev_sub (ev_lenT (ea_cons (ev_ixT (ev_ixT (ev_var rfl) ev_int rfl) ev_int (atI_mapN (g := keyD) (l := L.rows) (i := 0) [] (by omega))) ea_nil)) ev_int)) ?_)) (fun hb => ⟨?_, fun _ z => nomatch z⟩) fun hb => ?_
    · congr 2
      rw [List.length_map, List.length_map, hL.len 0 (by omega)]
      by_cases h : t.length = W
      · rw [decide_eq_true h, decide_eq_true (by omega)]
      · rw [decide_eq_false h, decide_eq_false (by omega)]
    · have e : drawB L W t = false := by
        unfold drawB
        have : decide (t.length = W) = false := by simpa using hb
        rw [this]
        rfl
      rw [e]
      exact sd_ret ev_bl
    · have e : decide (t.length = W) = true := by simpa using hb
      refine sd_ret (EvP.is (ev_all (bs := t.map fun p => decide (p < L.rows.length)) (ea_cons (ev_lcA t (fun (n : Nat) => .int (n : Int)) (fun n => [some L.d, some (nats t), some (.int (n : Int))]) (fun p => .bl (decide (p < L.rows.length))) (by rw [List.map_map]; rfl) (by omega) (iv_tup (ev_var rfl)) (fun x hx => gd_1) fun x hx => ?_) ea_nil)) ?_)
      · refine EvP.is (ev_andV (c := true) (EvP.is (ev_call (F := FFrom) (ea_cons (ev_var rfl) (ea_cons ev_int ea_nil)) ⟨.int (x : Int), "int", 0, rfl, rfl, rfl⟩) ?_) fun _ => ev_lt (ev_var rfl) (ev_many (ev_var rfl))) ?_
        · rfl
        · congr 1
          rw [Bool.true_and]
          by_cases h : x < L.rows.length
          · rw [decide_eq_true h, decide_eq_true (by omega)]
          · rw [decide_eq_false h, decide_eq_false (by omega)]
      · unfold drawB
        rw [e, Bool.true_and, List.all_map]
        try rfl
  · exact sd_seqR (sd_if (et_or (k := true) (et_not (et_B (ev_isi (ea_cons (ev_var rfl) (ea_cons ev_cls ea_nil)) hn hk))) fun h => nomatch h) (fun _ => sd_ret ev_bl) fun h => nomatch h)
/-! ### out_at -/
def loAt (L : Lay) (g : List Nat) (off : Int) (wd : Nat) : Int := if wd = 0 then 0 else max 0 (0 - (off - exactAt L g wd) / L.parts)
def hiAt (L : Lay) (g : List Nat) (off : Int) (wd : Nat) : Int := if wd = 0 then 0 else (exactAt L g wd + off) / L.parts
def outAt (L : Lay) (g : List Nat) (off : Int) (wd : Nat) (many : Int) : Option Int := if hiAt L g off wd < loAt L g off wd then none else some (max (max 0 (loAt L g off wd - many)) (many - hiAt L g off wd))
def FOutAt (ds : List D) (o : Option D) : Prop := ∃ (L : Lay) (W : Nat) (g : List Nat) (off : Int) (wd : Nat) (many : Int), ds = [L.d, nats g, .int off, .int (wd : Int), .int many] ∧ L.Ok W ∧ (∀ p ∈ g, p < L.rows.length) ∧ g.length ≤ 100 ∧ wd ≤ W ∧ o = (outAt L g off wd many).map .int
theorem sc_out_at : FnScope ["layout", "group", "off", "width", "many", "parts", "exact", "least", "most", "pane"] ["layout", "group", "off", "width", "many"] (defScope (top 26)) := ⟨rfl, rfl, rfl, by decide +kernel, rfl, by decide +kernel, by decide +kernel⟩
theorem ok_out_at (T : Txt mg) {C : Addr} (XC : XCan K mg C) {f : Addr} {fd : FuncData} (Fn : Fun K "out_at" "out_at" (top 26) f fd) : FnOk P w K mg base (L2.CX P w) 1 f fd ["layout", "group", "off", "width", "many"] (SpE C FOutAt) := by
  refine ok_immE (k := 0) Fn sc_out_at (fun ds o ⟨L, W, g, off, wd, many, e, _, _, _, _, eo⟩ => by
    subst e eo
    refine ⟨rfl, fun d hd => ?_⟩
    obtain ⟨i, _, rfl⟩ := Option.map_eq_some_iff.mp hd
    exact .int i) fun cdv A outer s H E ds o hr ⟨L, W, g, off, wd, many, e, hL, hg, hgl, hw, eo⟩ => ?_
  subst e eo
  have p0 := hL.p0
  have p1 := hL.p1
  refine ⟨_, (pss_cons (ps_par (i := 5) (j := 6) rfl sc_out_at.nd rfl rfl (by decide) rfl rfl (pa_cons (pe_ix (ixT_ K) (pv 0) pe_int (fun _ _ => rfl)) (pa_cons (pe_callB (sum_ K rfl) (by rfl) T.sum_ bt_sum (pa_cons (pe_lc (own := [("pane", 9)]) rfl sc_out_at.nd (iT_ K (pv 1)) (blkOk_by (by rfl)) (fun _ _ _ _ _ => (pg_name (i := 9) sc_out_at.nd rfl (Or.inl rfl))) (fun _ _ _ _ _ => pts_nil) (fun _ _ _ _ _ => (pe_ix (ixT_ K) (pe_ix (ixT_ K) (pe_ix (ixT_ K) (pv 0) pe_int (fun _ _ => rfl)) (pv 9) (fun _ _ => rfl)) (pv 3) (fun _ _ => rfl)))) pa_nil)) pa_nil)) rfl)
      (pss_cons (ps_par (i := 7) (j := 8) rfl sc_out_at.nd rfl rfl (by decide) rfl rfl (pa_cons (pe_callB (call_max2 rfl) (by rfl) T.max_ bt_max (pa_cons pe_int (pa_cons (pe_op op_sub pe_int (pe_op op_fdiv (pe_op op_sub (pv 2) (pv 6)) (pv 5))) pa_nil))) (pa_cons (pe_op op_fdiv (pe_op op_add (pv 6) (pv 2)) (pv 5)) pa_nil)) rfl)
      (pss_cons (ps_if (pt_cmpR op_eq (pv 3) pe_int (nomark _))
      (pss_one (ps_asg (pe_tup (pa_cons pe_int (pa_cons pe_int pa_nil))) (gT_ K (n := 2) rfl (pgs_cons (pg_name (i := 7) sc_out_at.nd rfl (Or.inl rfl)) (pgs_cons (pg_name (i := 8) sc_out_at.nd rfl (Or.inl rfl)) pgs_nil)))))
      pss_nil)
      (pss_cons (ps_if (pt_cmpR op_gt (pv 7) (pv 8) (nomark _))
      (pss_one (ps_raise rfl (takes_of rfl rfl rfl rfl) (pmk_own0 PySem.F.excBase_ValueError XC.q XC.g XC.k (raises_own XC.sub XC.typ) (by rfl))))
      pss_nil)
      (pss_one (ps_ret (pe_callB (call_max3Nu rfl) (by rfl) T.max_ bt_max (pa_cons pe_int (pa_cons (pe_op op_sub (pv 7) (pv 4)) (pa_cons (pe_op op_sub (pv 4) (pv 8)) pa_nil)))))))))), ?_⟩
  refine sd_seq (sd_par (ea_cons (ev_ixT (ev_var rfl) ev_int rfl) (ea_cons (ev_sum (ns := g.map fun p => (L.rows.getD p []).getD wd 0) (ea_cons (ev_lcA g (fun (n : Nat) => .int (n : Int)) (fun n => [some L.d, some (nats g), some (.int off), some (.int (wd : Int)), some (.int many), none, none, none, none, some (.int (n : Int))]) (fun p => .int ((L.rows.getD p []).getD wd 0)) (by rw [List.map_map]; rfl) (by omega) (iv_tup (ev_var rfl)) (fun x hx => gd_1) fun x hx => ?_) ea_nil)) ea_nil))) ?_
  · obtain ⟨a1, a2⟩ := rows_at hL (hg x hx) hw
    exact ev_ixT (ev_ixT (ev_ixT (ev_var rfl) ev_int rfl) (ev_var rfl) a1) (ev_var rfl) a2
  have hdiv : CDiv 0 L.parts := ⟨p0, by omega⟩
  refine sd_seq (sd_par (ea_cons (ev_max2 (ea_cons ev_int (ea_cons (ev_sub ev_int (ev_fdiv (ev_sub (ev_var rfl) (ev_var rfl)) (ev_var rfl) ⟨p0, by omega⟩)) ea_nil))) (ea_cons (ev_fdiv (ev_add (ev_var rfl) (ev_var rfl)) (ev_var rfl) ⟨p0, by omega⟩) ea_nil))) ?_
  refine sd_seq (o := _) (qs := [some L.d, some (nats g), some (.int off), some (.int (wd : Int)), some (.int many), some (.int L.parts), some (.int (exactAt L g wd)), some (.int (loAt L g off wd)), some (.int (hiAt L g off wd)), none]) (sd_if (et_test (ev_eqI (ev_var rfl) ev_int)) (fun hb => ?_) fun hb => ?_) ?_
  · have hz : wd = 0 := by
      have : (wd : Int) = 0 := by simpa using hb
      omega
    have e1 : loAt L g off wd = 0 := if_pos hz
    have e2 : hiAt L g off wd = 0 := if_pos hz
    rw [e1, e2]
    exact sd_asg (vs := [7, 8]) (ev_tup (ea_cons ev_int (ea_cons ev_int ea_nil)) (by simp)) (gd_tup (gs_cons gd_name (gs_cons gd_name gs_nil)) rfl)
  · have hz : ¬ wd = 0 := by
      have : ¬ (wd : Int) = 0 := by simpa using hb
      omega
    have e1 : loAt L g off wd = max 0 (0 - (off - exactAt L g wd) / L.parts) := if_neg hz
    have e2 : hiAt L g off wd = (exactAt L g wd + off) / L.parts := if_neg hz
    rw [e1, e2]
    exact sd_next
  · refine sd_ifThen (et_test (ev_gt (ev_var rfl) (ev_var rfl))) (fun hb => ?_) fun hb => ?_
    · have hz : hiAt L g off wd < loAt L g off wd := by simpa using hb
      have e : outAt L g off wd many = none := if_pos hz
      rw [e]
      exact ⟨sd_ex fun Dn σ H q => q, fun _ z => nomatch z⟩
    · have hz : ¬ hiAt L g off wd < loAt L g off wd := by simpa using hb
      have e : outAt L g off wd many = some _ := if_neg hz
      rw [e]
      exact sd_ret (ev_max3 (ea_cons ev_int (ea_cons (ev_sub (ev_var rfl) (ev_var rfl)) (ea_cons (ev_sub (ev_var rfl) (ev_var rfl)) ea_nil))))
end
end SP
set_option Elab.async false
set_option linter.all false
set_option maxRecDepth 100000
set_option maxHeartbeats 1000000
/-! Stillpanes: tuple_of, _law_lists. -/
namespace SP
open PySem L2 PySem.Spec PyProof.Rows
section
variable {P : Program} {w : World} {K : PySem.W.Frag} {mg : Str → Option Value} {base : Heap}
def FTup (n : Nat) (ds : List D) (d : D) : Prop := ∃ x, ds = [x] ∧ Nst n x ∧ d = x.tupd
theorem kitAtom {d : D} (h : d.atom = true) : ∃ n, d.tyN = some n ∧ kitB n "list" = some false ∧ kitB n "tuple" = some false := by
  cases d with
  | non => exact ⟨_, rfl, by decide +kernel, by decide +kernel⟩
  | bl c => exact ⟨_, rfl, by decide +kernel, by decide +kernel⟩
  | int i => exact ⟨_, rfl, by decide +kernel, by decide +kernel⟩
  | str x => exact ⟨_, rfl, by decide +kernel, by decide +kernel⟩
  | _ => cases h
theorem sc_tuple_of : FnScope ["thing", "part"] ["thing"] (defScope (top 5)) := ⟨rfl, rfl, rfl, by decide +kernel, rfl, by decide +kernel, by decide +kernel⟩
theorem ok_tuple_of (T : Txt mg) {f : Addr} {fd : FuncData} (Fn : Fun K "tuple_of" "tuple_of" (top 5) f fd) (hm : mg "tuple_of" = some (.ref f)) (hk : PySem.W.keepIn K (.ref f) = true) (hb : Binds K fd ["thing"] []) :
    ∀ n, FnOk P w K mg base (L2.CX P w) (n + 1) f fd ["thing"] (SpR (FTup n))
  | 0 => by
    refine ok_imm (k := 0) Fn sc_tuple_of (fun ds d ⟨x, e, hx, ed⟩ => by subst e ed; exact ⟨rfl, hx.imm⟩) fun cdv A outer s H E ds d hr ⟨x, e, hx, ed⟩ => ?_
    subst e ed
    cases hx with
    | atom h =>
      obtain ⟨m, hm1, hk1, hk2⟩ := kitAtom h
      refine ⟨_, (pss_cons (ps_if (pt_val (pe_callB (isiT_ K) (by rfl) T.isinstance_ bt_isinstance (pa_cons (pv 0) (pa_cons (pe_tup (pa_cons (pe_bltn (v := .ty "list") (by rfl) T.list_ bt_list rfl) (pa_cons (pe_bltn (v := .ty "tuple") (by rfl) T.tuple_ bt_tuple rfl) pa_nil))) pa_nil))))
      pss_never
      pss_nil)
      (pss_one (ps_ret (pv 0)))), ?_⟩
      rw [atom_tupd h]
      exact sd_ifThen (et_B (EvP.is (ev_isi2 (ea_cons (ev_var rfl) (ea_cons (ev_tup (ea_cons ev_cls (ea_cons ev_cls ea_nil)) (by simp)) ea_nil)) hm1 hk1 hk2) rfl)) (fun h => nomatch h) fun _ => sd_ret (ev_var rfl)
  | n + 1 => by
    have h_tuple_of : Has P w K mg base "tuple_of" ["thing"] (n + 1) (SpR (FTup n)) := ⟨f, fd, ok_tuple_of T Fn hm hk hb n, hm, hk, hb⟩
    refine ok_imm (k := n + 1) Fn sc_tuple_of (fun ds d ⟨x, e, hx, ed⟩ => by subst e ed; exact ⟨rfl, hx.imm⟩) fun cdv A outer s H E ds d hr ⟨x, e, hx, ed⟩ => ?_
    subst e ed
    have hr_tuple_of := hr
    cases hx with
    | atom h =>
      obtain ⟨m, hm1, hk1, hk2⟩ := kitAtom h
      refine ⟨_, (pss_cons (ps_if (pt_val (pe_callB (isiT_ K) (by rfl) T.isinstance_ bt_isinstance (pa_cons (pv 0) (pa_cons (pe_tup (pa_cons (pe_bltn (v := .ty "list") (by rfl) T.list_ bt_list rfl) (pa_cons (pe_bltn (v := .ty "tuple") (by rfl) T.tuple_ bt_tuple rfl) pa_nil))) pa_nil))))
      pss_never
      pss_nil)
      (pss_one (ps_ret (pv 0)))), ?_⟩
      rw [atom_tupd h]
      exact sd_ifThen (et_B (EvP.is (ev_isi2 (ea_cons (ev_var rfl) (ea_cons (ev_tup (ea_cons ev_cls (ea_cons ev_cls ea_nil)) (by simp)) ea_nil)) hm1 hk1 hk2) rfl)) (fun h => nomatch h) fun _ => sd_ret (ev_var rfl)
    | @tup _ ds h hl =>
      refine ⟨_, (pss_cons (ps_if (pt_val (pe_callB (isiT_ K) (by rfl) T.isinstance_ bt_isinstance (pa_cons (pv 0) (pa_cons (pe_tup (pa_cons (pe_bltn (v := .ty "list") (by rfl) T.list_ bt_list rfl) (pa_cons (pe_bltn (v := .ty "tuple") (by rfl) T.tuple_ bt_tuple rfl) pa_nil))) pa_nil))))
      (pss_one (ps_ret (pe_callTy (tup_ K) (by rfl) T.tuple_ bt_tuple (pa_cons (pe_lc (own := [("part", 1)]) rfl sc_tuple_of.nd (iT_ K (pv 0)) (blkOk_by (by rfl)) (fun _ _ _ _ _ => (pg_name (i := 1) sc_tuple_of.nd rfl (Or.inl rfl))) (fun _ _ _ _ _ => pts_nil) (fun _ _ _ _ _ => (pe_has h_tuple_of hr_tuple_of (by rfl) (pa_cons (pv 1) pa_nil) pass0))) pa_nil))))
      pss_nil)
      (pss_one (ps_ret (pv 0)))), ?_⟩
      rw [D.tupd, tupds_map]
      exact sd_ifThen (et_B (EvP.is (ev_isi2 (n := "tuple") (ea_cons (ev_var rfl) (ea_cons (ev_tup (ea_cons ev_cls (ea_cons ev_cls ea_nil)) (by simp)) ea_nil)) rfl (by decide +kernel : kitB "tuple" "list" = some false) (by decide +kernel : kitB "tuple" "tuple" = some true)) rfl)) (fun _ => ⟨sd_ret (ev_tupL (ea_cons (ev_lcA ds (fun x => x) (fun x => [some (.tup ds), some x]) D.tupd rfl (by omega) (IvP.is (iv_tup (ev_var rfl)) (List.map_id _).symm) (fun x hx => gd_1) fun x hx => ev_call (F := FTup n) (ea_cons (ev_var rfl) ea_nil) ⟨x, rfl, h x hx, rfl⟩) ea_nil)), fun _ z => nomatch z⟩) fun h => nomatch h
    | @lst _ ds h hl =>
      refine ⟨_, (pss_cons (ps_if (pt_val (pe_callB (isiT_ K) (by rfl) T.isinstance_ bt_isinstance (pa_cons (pv 0) (pa_cons (pe_tup (pa_cons (pe_bltn (v := .ty "list") (by rfl) T.list_ bt_list rfl) (pa_cons (pe_bltn (v := .ty "tuple") (by rfl) T.tuple_ bt_tuple rfl) pa_nil))) pa_nil))))
      (pss_one (ps_ret (pe_callTy (tup_ K) (by rfl) T.tuple_ bt_tuple (pa_cons (pe_lc (own := [("part", 1)]) rfl sc_tuple_of.nd (iL_ K (pv 0)) (blkOk_by (by rfl)) (fun _ _ _ _ _ => (pg_name (i := 1) sc_tuple_of.nd rfl (Or.inl rfl))) (fun _ _ _ _ _ => pts_nil) (fun _ _ _ _ _ => (pe_has h_tuple_of hr_tuple_of (by rfl) (pa_cons (pv 1) pa_nil) pass0))) pa_nil))))
      pss_nil)
      (pss_one (ps_ret (pv 0)))), ?_⟩
      rw [D.tupd, tupds_map]
      exact sd_ifThen (et_B (EvP.is (ev_isi2 (n := "list") (ea_cons (ev_var rfl) (ea_cons (ev_tup (ea_cons ev_cls (ea_cons ev_cls ea_nil)) (by simp)) ea_nil)) rfl (by decide +kernel : kitB "list" "list" = some true) (by decide +kernel : kitB "list" "tuple" = some false)) rfl)) (fun _ => ⟨sd_ret (ev_tupL (ea_cons (ev_lcA ds (fun x => x) (fun x => [some (.lst ds), some x]) D.tupd rfl (by omega) (IvP.is (iv_lst (ev_var rfl)) (List.map_id _).symm) (fun x hx => gd_1) fun x hx => ev_call (F := FTup n) (ea_cons (ev_var rfl) ea_nil) ⟨x, rfl, h x hx, rfl⟩) ea_nil)), fun _ z => nomatch z⟩) fun h => nomatch h
/-! ### _law_lists, of tuples -/
inductive NsT : Nat → D → Prop
  | atom {n : Nat} {d : D} (h : d.atom = true) : NsT n d
  | tup {n : Nat} {ds : List D} (h : ∀ d ∈ ds, NsT n d) (hl : ds.length ≤ 10000) : NsT (n + 1) (.tup ds)
theorem NsT.imm {n : Nat} {d : D} (h : NsT n d) : Imm d := by
  induction h with
  | atom h => exact atom_imm h
  | tup h _ ih => exact .tup ih
def FLists (n : Nat) (ds : List D) (d : D) : Prop := ∃ x, ds = [x] ∧ NsT n x ∧ d = x.lstd
theorem sc_law_lists : FnScope ["_law_matter", "_law_bit"] ["_law_matter"] (defScope (top 33)) := ⟨rfl, rfl, rfl, by decide +kernel, rfl, by decide +kernel, by decide +kernel⟩
theorem ok_law_lists (T : Txt mg) {f : Addr} {fd : FuncData} (Fn : Fun K "_law_lists" "_law_lists" (top 33) f fd) (hm : mg "_law_lists" = some (.ref f)) (hk : PySem.W.keepIn K (.ref f) = true) (hb : Binds K fd ["_law_matter"] []) :
    ∀ n, FnOk P w K mg base (L2.CX P w) (n + 1) f fd ["_law_matter"] (SpR (FLists n))
  | 0 => by
    refine ok_new (k := 0) Fn sc_law_lists (fun ds d ⟨x, e, hx, ed⟩ => by subst e ed; exact ⟨rfl, fun y hy => by rw [List.mem_singleton.mp hy]; exact hx.imm⟩) fun cdv A outer s H E ds d hr ⟨x, e, hx, ed⟩ => ?_
    subst e ed
    cases hx with
    | atom h =>
      obtain ⟨m, hm1, hk1, hk2⟩ := kitAtom h
      refine ⟨_, (pss_one (ps_ret (pe_ifExp (pt_val (pe_callB (isiT_ K) (by rfl) T.isinstance_ bt_isinstance (pa_cons (pv 0) (pa_cons (pe_tup (pa_cons (pe_bltn (v := .ty "list") (by rfl) T.list_ bt_list rfl) (pa_cons (pe_bltn (v := .ty "tuple") (by rfl) T.tuple_ bt_tuple rfl) pa_nil))) pa_nil)))) pe_never (pv 0)))), ?_⟩
      rw [atom_lstd h]
      exact sd_ret (ev_if (et_B (EvP.is (ev_isi2 (ea_cons (ev_var rfl) (ea_cons (ev_tup (ea_cons ev_cls (ea_cons ev_cls ea_nil)) (by simp)) ea_nil)) hm1 hk1 hk2) rfl)) (fun h => nomatch h) fun _ => ev_var rfl)
  | n + 1 => by
    have h_law_lists : Has P w K mg base "_law_lists" ["_law_matter"] (n + 1) (SpR (FLists n)) := ⟨f, fd, ok_law_lists T Fn hm hk hb n, hm, hk, hb⟩
    refine ok_new (k := n + 1) Fn sc_law_lists (fun ds d ⟨x, e, hx, ed⟩ => by subst e ed; exact ⟨rfl, fun y hy => by rw [List.mem_singleton.mp hy]; exact hx.imm⟩) fun cdv A outer s H E ds d hr ⟨x, e, hx, ed⟩ => ?_
    subst e ed
    have hr_law_lists := hr
    cases hx with
    | atom h =>
      obtain ⟨m, hm1, hk1, hk2⟩ := kitAtom h
      refine ⟨_, (pss_one (ps_ret (pe_ifExp (pt_val (pe_callB (isiT_ K) (by rfl) T.isinstance_ bt_isinstance (pa_cons (pv 0) (pa_cons (pe_tup (pa_cons (pe_bltn (v := .ty "list") (by rfl) T.list_ bt_list rfl) (pa_cons (pe_bltn (v := .ty "tuple") (by rfl) T.tuple_ bt_tuple rfl) pa_nil))) pa_nil)))) pe_never (pv 0)))), ?_⟩
      rw [atom_lstd h]
      exact sd_ret (ev_if (et_B (EvP.is (ev_isi2 (ea_cons (ev_var rfl) (ea_cons (ev_tup (ea_cons ev_cls (ea_cons ev_cls ea_nil)) (by simp)) ea_nil)) hm1 hk1 hk2) rfl)) (fun h => nomatch h) fun _ => ev_var rfl)
    | @tup _ ds h hl =>
      refine ⟨_, (pss_one (ps_ret (pe_ifExp (pt_val (pe_callB (isiT_ K) (by rfl) T.isinstance_ bt_isinstance (pa_cons (pv 0) (pa_cons (pe_tup (pa_cons (pe_bltn (v := .ty "list") (by rfl) T.list_ bt_list rfl) (pa_cons (pe_bltn (v := .ty "tuple") (by rfl) T.tuple_ bt_tuple rfl) pa_nil))) pa_nil)))) (pe_lc (own := [("_law_bit", 1)]) rfl sc_law_lists.nd (iT_ K (pv 0)) (blkOk_by (by rfl)) (fun _ _ _ _ _ => (pg_name (i := 1) sc_law_lists.nd rfl (Or.inl rfl))) (fun _ _ _ _ _ => pts_nil) (fun _ _ _ _ _ => (pe_has h_law_lists hr_law_lists (by rfl) (pa_cons (pv 1) pa_nil) pass0))) (pv 0)))), ?_⟩
      rw [D.lstd, lstds_map]
      exact sd_ret (ev_if (et_B (EvP.is (ev_isi2 (n := "tuple") (ea_cons (ev_var rfl) (ea_cons (ev_tup (ea_cons ev_cls (ea_cons ev_cls ea_nil)) (by simp)) ea_nil)) rfl (by decide +kernel : kitB "tuple" "list" = some false) (by decide +kernel : kitB "tuple" "tuple" = some true)) rfl)) (fun _ => ev_lcA ds (fun x => x) (fun x => [some (.tup ds), some x]) D.lstd rfl (by omega) (IvP.is (iv_tup (ev_var rfl)) (List.map_id _).symm) (fun x hx => gd_1) fun x hx => ev_call (F := FLists n) (ea_cons (ev_var rfl) ea_nil) ⟨x, rfl, h x hx, rfl⟩) fun h => nomatch h)
end
end SP
set_option Elab.async false
set_option linter.all false
set_option maxRecDepth 100000
set_option maxHeartbeats 1000000
/-! Stillpanes: fewest_moved, is_least_moved, stays_to, out_by. -/
namespace SP
open PySem L2 PySem.Spec PyProof.Rows
/-- x, y, z stand for a layout, a drawing, limits, as lists or tuples -/
structure Told (L : Lay) (W : Nat) (dr : List Nat) (ls : List (List Nat × Int)) (x y z : D) : Prop where
  nx : Nst 3 x
  ny : Nst 3 y
  nz : Nst 3 z
  ex : x.tupd = L.d
  ey : y.tupd = nats dr
  ez : z.tupd = limsD ls
  hL : L.Ok W
  hl : LimsOk L ls
  hd : DrawOk L W dr
  h4 : ∀ j, j ≤ W → (stAt L ls j).length ≤ 4000
theorem costs_look {L : Lay} {ls : List (List Nat × Int)} {d : List Nat} {w : Nat} {p : List Int × Int} (h : p ∈ costAt L ls d w) : lookZ (costAt L ls d w) p.1 = some p.2 := by
  have hn := (costAt_ok L ls d w).1
  have : ∀ ks : Cost, (ks.map (·.1)).Nodup → p ∈ ks → lookZ ks p.1 = some p.2 := by
    intro ks
    induction ks with
    | nil => intro _ h; cases h
    | cons c ks ih =>
      intro hn h
      rw [List.map_cons, List.nodup_cons] at hn
      rcases List.mem_cons.mp h with e | h
      · subst e
        simp [lookZ]
      · have hne : ¬ c.1 = p.1 := fun z => hn.1 (z ▸ List.mem_map.mpr ⟨p, h, rfl⟩)
        have := ih hn.2 h
        unfold lookZ at this ⊢
        simp only [List.find?_cons, hne, decide_false]
        exact this
  exact this _ hn h
theorem atI_end {α : Type} {f : Nat → α} {n : Nat} : atI ((List.range (n + 1)).map f) (-1) = some (f n) := by
  rw [List.range_succ, List.map_append]
  exact atI_last _ _
section
variable {P : Program} {w : World} {K : PySem.W.Frag} {mg : Str → Option Value} {base : Heap}
theorem ev_told {b : Bool} {ps : Ds} {te : TE} {E : L2.St → XK} {x d : D} (h : EvP b ps te x) (hx : Nst 3 x) (e : x.tupd = d) : EvP b ps (tCallS (SpR (FTup 3)) E (tCons te tNil)) d := ev_call (F := FTup 3) (ea_cons h ea_nil) ⟨x, rfl, hx, e.symm⟩
theorem cost_len {L : Lay} {W : Nat} {dr : List Nat} {ls : List (List Nat × Int)} (h4 : ∀ j, j ≤ W → (stAt L ls j).length ≤ 4000) {j : Nat} (hj : j ≤ W) : (costAt L ls dr j).length ≤ 4000 := Nat.le_trans (costAt_ok L ls dr j).len (h4 j hj)
/-- [last[own] for own in last] -/
theorem ev_costs {L : Lay} {ls : List (List Nat × Int)} {dr : List Nat} {W j i : Nat} {ps : Ds} (hlen : (costAt L ls dr W).length ≤ 4000) (hj : ps[j]? = some (some (.dct (dZ (costAt L ls dr W))))) (hne : j ≠ i) (hl : i < ps.length) : EvP true ps (tLockE (tLc (iKeys (tVar j)) (gName i) tYes (tDGet (tVar j) (tVar i)) [i])) (.lst (((costAt L ls dr W).map (·.2)).map .int)) := by
  refine ev_lockD (j := j) hj (fun y hy => by
    obtain ⟨v, _, rfl⟩ := List.mem_map.mp hy
    exact .int v) ?_
  have hjl : j < ps.length := (List.getElem?_eq_some_iff.mp hj).1
  have hw : ∀ d, ((wipeP (ps.set j (some (.lkd (dZ (costAt L ls dr W))))) [i]).set i d)[j]? = some (some (.lkd (dZ (costAt L ls dr W)))) := fun d => by
    show ((((ps.set j (some (.lkd (dZ (costAt L ls dr W)))))).set i none).set i d)[j]? = _
    rw [List.getElem?_set_ne hne.symm, List.getElem?_set_ne hne.symm, List.getElem?_set_self hjl]
  have hi : ∀ d, ((wipeP (ps.set j (some (.lkd (dZ (costAt L ls dr W))))) [i]).set i (some d))[i]? = some (some d) := fun d => by
    show ((((ps.set j (some (.lkd (dZ (costAt L ls dr W)))))).set i none).set i (some d))[i]? = _
    rw [List.getElem?_set_self (by rw [List.length_set, List.length_set]; exact hl)]
  refine ev_lcA (costAt L ls dr W) (fun p => keyD p.1) (fun p => (wipeP (ps.set j (some (.lkd (dZ (costAt L ls dr W))))) [i]).set i (some (keyD p.1))) (fun p => .int p.2) (by rw [List.map_map]; rfl) (by omega) (IvP.is (iv_keys (ks := dZ (costAt L ls dr W)) (ev_var (by rw [List.getElem?_set_self hjl]))) ?_) (fun x hx => gd_1) fun x hx => ev_dget (ev_var (hw _)) rfl (ev_var (hi _)) (by rw [valDZ, costs_look hx]; rfl)
  unfold dZ
  rw [List.map_map]
  rfl
/-! ### fewest_moved -/
def fewO (L : Lay) (ls : List (List Nat × Int)) (dr : List Nat) (W : Nat) : Option Int := if costAt L ls dr W = [] then none else some (minZ ((costAt L ls dr W).map (·.2)))
def FFew (ds : List D) (o : Option D) : Prop := ∃ (L : Lay) (W : Nat) (dr : List Nat) (ls : List (List Nat × Int)) (x y z : D), ds = [x, y, z] ∧ Told L W dr ls x y z ∧ o = (fewO L ls dr W).map .int
theorem nst3 {x y z : D} (hx : Nst 3 x) (hy : Nst 3 y) (hz : Nst 3 z) : ∀ d ∈ [x, y, z], ∃ n, Nst n d := fun d hd => by
  rcases List.mem_cons.mp hd with rfl | hd
  · exact ⟨3, hx⟩
  · rcases List.mem_cons.mp hd with rfl | hd
    · exact ⟨3, hy⟩
    · rw [List.mem_singleton.mp hd]; exact ⟨3, hz⟩
theorem dZ_nil {cs : Cost} : (dZ cs = []) ↔ cs = [] := by
  unfold dZ
  exact List.map_eq_nil_iff
theorem sc_fewest_moved : FnScope ["layout", "drawing", "limits", "last", "own"] ["layout", "drawing", "limits"] (defScope (top 16)) := ⟨rfl, rfl, rfl, by decide +kernel, rfl, by decide +kernel, by decide +kernel⟩
theorem ok_fewest_moved (T : Txt mg) {C : Addr} (XC : XCan K mg C) (h_tuple_of : Has P w K mg base "tuple_of" ["thing"] 4 (SpR (FTup 3))) (h_cheapest : Has P w K mg base "cheapest" ["layout", "drawing", "limits"] 3 (SpR FCheap)) {f : Addr} {fd : FuncData} (Fn : Fun K "fewest_moved" "fewest_moved" (top 16) f fd) : FnOk P w K mg base (L2.CX P w) 5 f fd ["layout", "drawing", "limits"] (SpE C FFew) := by
  refine ok_nstE (k := 4) Fn sc_fewest_moved (fun ds o ⟨L, W, dr, ls, x, y, z, e, hT, eo⟩ => by
    subst e eo
    refine ⟨rfl, nst3 hT.nx hT.ny hT.nz, fun d hd => ?_⟩
    obtain ⟨i, _, rfl⟩ := Option.map_eq_some_iff.mp hd
    exact .int i) fun cdv A outer s H E ds o hr ⟨L, W, dr, ls, x, y, z, e, hT, eo⟩ => ?_
  subst e eo
  have hr_tuple_of := hr
  have hr_cheapest := hr.mono (by decide : 3 ≤ 4)
  have hu0 := un_of (n := 0) hr
  have hu1 := un_of (n := 1) hr
  refine ⟨_, (pss_cons (ps_set (i := 3) sc_fewest_moved.nd rfl (Or.inr rfl) (pe_ix (ixL_ K) (pe_has h_cheapest hr_cheapest (by rfl) (pa_cons (pe_has h_tuple_of hr_tuple_of (by rfl) (pa_cons (pv 0) pa_nil) pass0) (pa_cons (pe_has h_tuple_of hr_tuple_of (by rfl) (pa_cons (pv 1) pa_nil) pass0) (pa_cons (pe_has h_tuple_of hr_tuple_of (by rfl) (pa_cons (pv 2) pa_nil) pass0) pa_nil))) pass0) (pe_un un_neg pe_int) (fun _ _ => rfl)))
      (pss_cons (ps_if (pt_cmpR (op_eqZ hu0) (pv 3) pe_dnewT (nomark _))
      (pss_one (ps_raise rfl (takes_of rfl rfl rfl rfl) (pmk_own0 PySem.F.excBase_ValueError XC.q XC.g XC.k (raises_own XC.sub XC.typ) (by rfl))))
      pss_nil)
      (pss_one (ps_ret (pe_callB (min_ K rfl) (by rfl) T.min_ bt_min (pa_cons (pe_lock (pe_lc (own := [("own", 4)]) rfl sc_fewest_moved.nd (pi_keys (pv 3)) (blkOk_by (by rfl)) (fun _ _ _ _ _ => (pg_name (i := 4) sc_fewest_moved.nd rfl (Or.inl rfl))) (fun _ _ _ _ _ => pts_nil) (fun _ _ _ _ _ => (pe_dget hu1 (pv 3) (pv 4) (fun _ _ => rfl))))) pa_nil)))))), ?_⟩
  refine sd_seq (sd_set (ev_ixL (ev_call (F := FCheap) (ea_cons (ev_told (ev_var rfl) hT.nx hT.ex) (ea_cons (ev_told (ev_var rfl) hT.ny hT.ey) (ea_cons (ev_told (ev_var rfl) hT.nz hT.ez) ea_nil))) ⟨L, W, dr, ls, rfl, hT.hL, hT.hl, hT.hd, hT.h4, rfl⟩) (ev_neg ev_int) atI_end)) ?_
  refine sd_ifThen (et_test (ev_eqZ (ev_var rfl) rfl ev_dnew)) (fun hb => ?_) fun hb => ?_
  · have hz : costAt L ls dr W = [] := dZ_nil.mp (by simpa using hb)
    have e : fewO L ls dr W = none := if_pos hz
    rw [e]
    exact ⟨sd_ex fun Dn σ H q => q, fun _ z => nomatch z⟩
  · have hz : ¬ costAt L ls dr W = [] := fun z => by
      have : ¬ dZ (costAt L ls dr W) = [] := by simpa using hb
      exact this (dZ_nil.mpr z)
    have e : fewO L ls dr W = some _ := if_neg hz
    rw [e]
    exact sd_ret (ev_minL (ea_cons (ev_costs (j := 3) (i := 4) (cost_len hT.h4 (Nat.le_refl _)) rfl (by decide) (Nat.lt_succ_self 4)) ea_nil) (fun z => hz (List.map_eq_nil_iff.mp z)))
/-! ### is_least_moved -/
/-- what of a thing is a drawing -/
def thingB (L : Lay) (W : Nat) (ls : List (List Nat × Int)) (dr : List Nat) : D → List Nat → Bool := fun _ t => drawB L W t && (keptB L ls t && decide (((movedN dr t).length : Int) = minZ ((costAt L ls dr W).map (·.2))))
def FLeastQ (ds : List D) (d : D) : Prop := ∃ (L : Lay) (W : Nat) (dr : List Nat) (ls : List (List Nat × Int)) (x y z u : D), ds = [x, y, z, u] ∧ Told L W dr ls x y z ∧
  ((∃ t : List Nat, u = nats t ∧ t.length ≤ 1000 ∧ (drawB L W t = true → keptB L ls t = true → costAt L ls dr W ≠ []) ∧ d = .bl (thingB L W ls dr u t)) ∨ ((∃ n, u.tyN = some n ∧ kitB n "tuple" = some false) ∧ (∃ n, Nst n u) ∧ d = .bl false))
theorem sc_is_least_moved : FnScope ["layout", "drawing", "limits", "thing", "own", "laid", "told", "last", "counts"] ["layout", "drawing", "limits", "thing"] (defScope (top 22)) := ⟨rfl, rfl, rfl, by decide +kernel, rfl, by decide +kernel, by decide +kernel⟩
theorem ok_is_least_moved (T : Txt mg) (h_tuple_of : Has P w K mg base "tuple_of" ["thing"] 4 (SpR (FTup 3))) (h_cheapest : Has P w K mg base "cheapest" ["layout", "drawing", "limits"] 3 (SpR FCheap)) (h_is_drawing_of : Has P w K mg base "is_drawing_of" ["layout", "thing"] 3 (SpR FIsDraw)) (h_is_kept : Has P w K mg base "is_kept" ["layout", "drawing", "limits"] 2 (SpR FIsKept)) (h_moved : Has P w K mg base "moved" ["layout", "drawing", "other"] 1 (SpR FMoved))
    {f : Addr} {fd : FuncData} (Fn : Fun K "is_least_moved" "is_least_moved" (top 22) f fd) : FnOk P w K mg base (L2.CX P w) 5 f fd ["layout", "drawing", "limits", "thing"] (SpR FLeastQ) := by
  refine ok_nst (k := 4) Fn sc_is_least_moved (fun ds d ⟨L, W, dr, ls, x, y, z, u, e, hT, h⟩ => by
    subst e
    refine ⟨rfl, fun d hd => ?_, ?_⟩
    · rcases List.mem_cons.mp hd with rfl | hd
      · exact ⟨3, hT.nx⟩
      · rcases List.mem_cons.mp hd with rfl | hd
        · exact ⟨3, hT.ny⟩
        · rcases List.mem_cons.mp hd with rfl | hd
          · exact ⟨3, hT.nz⟩
          · rw [List.mem_singleton.mp hd]
            rcases h with ⟨t, rfl, ht, _⟩ | ⟨_, hn, _⟩
            · exact ⟨1, .tup (fun d hd => by
                obtain ⟨n, _, rfl⟩ := List.mem_map.mp hd
                exact .atom rfl) (by rw [List.length_map]; omega)⟩
            · exact hn
    · rcases h with ⟨t, _, _, _, rfl⟩ | ⟨_, _, rfl⟩
      · exact .bl _
      · exact .bl _) fun cdv A outer s H E ds d hr ⟨L, W, dr, ls, x, y, z, u, e, hT, h⟩ => ?_
  subst e
  have hr_tuple_of := hr
  have hr_cheapest := hr.mono (by decide : 3 ≤ 4)
  have hr_is_drawing_of := hr.mono (by decide : 3 ≤ 4)
  have hr_is_kept := hr.mono (by decide : 2 ≤ 4)
  have hr_moved := hr.mono (by decide : 1 ≤ 4)
  have hu1 := un_of (n := 1) hr
  have hdl : dr.length ≤ 1000 := by
    have := hT.hd.1
    have := hT.hL.w1
    omega
  refine ⟨_, (pss_cons (ps_par3 (i := 4) (j := 5) (l := 6) rfl sc_is_least_moved.nd rfl rfl rfl (by decide) (by decide) (by decide) rfl rfl rfl (pa_cons (pe_has h_tuple_of hr_tuple_of (by rfl) (pa_cons (pv 0) pa_nil) pass0) (pa_cons (pe_has h_tuple_of hr_tuple_of (by rfl) (pa_cons (pv 1) pa_nil) pass0) (pa_cons (pe_has h_tuple_of hr_tuple_of (by rfl) (pa_cons (pv 2) pa_nil) pass0) pa_nil))) rfl)
      (pss_cons (ps_set (i := 7) sc_is_least_moved.nd rfl (Or.inr rfl) (pe_ix (ixL_ K) (pe_has h_cheapest hr_cheapest (by rfl) (pa_cons (pv 4) (pa_cons (pv 5) (pa_cons (pv 6) pa_nil))) pass0) (pe_un un_neg pe_int) (fun _ _ => rfl)))
      (pss_cons (ps_if (PW.pt (pw_or (pt_not (pt_val (pe_has h_is_drawing_of hr_is_drawing_of (by rfl) (pa_cons (pv 4) (pa_cons (pv 3) pa_nil)) pass0))) (pw_or1 (pt_not (pt_val (pe_has h_is_kept hr_is_kept (by rfl) (pa_cons (pv 4) (pa_cons (pv 3) (pa_cons (pv 6) pa_nil))) pass0))))))
      (pss_one (ps_ret pe_bl))
      pss_nil)
      (pss_one (ps_ret (pe_cmpR op_eq (pe_callB (len_ K) (by rfl) T.len_ bt_len (pa_cons (pe_has h_moved hr_moved (by rfl) (pa_cons (pv 4) (pa_cons (pv 5) (pa_cons (pv 3) pa_nil))) pass0) pa_nil)) (pe_callB (min_ K rfl) (by rfl) T.min_ bt_min (pa_cons (pe_lock (pe_lc (own := [("counts", 8)]) rfl sc_is_least_moved.nd (pi_keys (pv 7)) (blkOk_by (by rfl)) (fun _ _ _ _ _ => (pg_name (i := 8) sc_is_least_moved.nd rfl (Or.inl rfl))) (fun _ _ _ _ _ => pts_nil) (fun _ _ _ _ _ => (pe_dget hu1 (pv 7) (pv 8) (fun _ _ => rfl))))) pa_nil)) (nomark _))))))), ?_⟩
  refine sd_seq (qs := [some x, some y, some z, some u, some L.d, some (nats dr), some (limsD ls), none, none]) (sd_par3 (ea_cons (ev_told (ev_var rfl) hT.nx hT.ex) (ea_cons (ev_told (ev_var rfl) hT.ny hT.ey) (ea_cons (ev_told (ev_var rfl) hT.nz hT.ez) ea_nil)))) ?_
  refine sd_seq (sd_set (ev_ixL (ev_call (F := FCheap) (ea_cons (ev_var rfl) (ea_cons (ev_var rfl) (ea_cons (ev_var rfl) ea_nil))) ⟨L, W, dr, ls, rfl, hT.hL, hT.hl, hT.hd, hT.h4, rfl⟩) (ev_neg ev_int) atI_end)) ?_
  rcases h with ⟨t, rfl, ht, hne, rfl⟩ | ⟨hk, _, rfl⟩
  · refine sd_ifThen (et_or (et_not (et_B (ev_call (F := FIsDraw) (ea_cons (ev_var rfl) (ea_cons (ev_var rfl) ea_nil)) ⟨L, W, nats t, rfl, hT.hL, .inl ⟨t, rfl, ht, rfl⟩⟩))) (k := !keptB L ls t) fun hz => et_not (et_B (ev_call (F := FIsKept) (ea_cons (ev_var rfl) (ea_cons (ev_var rfl) (ea_cons (ev_var rfl) ea_nil))) ⟨L, W, ls, t, rfl, hT.hL, hT.hl, ?_, rfl⟩))) (fun hb => ⟨?_, fun _ z => nomatch z⟩) fun hb => ?_
    · have hd : drawB L W t = true := by simpa using hz
      unfold drawB at hd
      rw [Bool.and_eq_true] at hd
      exact ⟨by simpa using hd.1, fun p hp => by simpa using List.all_eq_true.mp hd.2 p hp⟩
    · have e : thingB L W ls dr (nats t) t = false := by
        unfold thingB
        cases h1 : drawB L W t <;> cases h2 : keptB L ls t <;> rw [h1, h2] at hb <;> first | rfl | cases hb
      rw [e]
      exact sd_ret ev_bl
    · have h1 : drawB L W t = true := by
        cases h1 : drawB L W t with
        | true => rfl
        | false => rw [h1] at hb; cases hb
      have h2 : keptB L ls t = true := by
        cases h2 : keptB L ls t with
        | true => rfl
        | false => rw [h1, h2] at hb; cases hb
      refine sd_ret (EvP.is (ev_eqI (ev_lenT (ea_cons (ev_call (F := FMoved) (ea_cons (ev_var rfl) (ea_cons (ev_var rfl) (ea_cons (ev_var rfl) ea_nil))) ⟨L.d, dr, t, rfl, hdl, ht, rfl⟩) ea_nil)) (ev_minL (ea_cons (ev_costs (j := 7) (i := 8) (cost_len hT.h4 (Nat.le_refl _)) rfl (by decide) (Nat.lt_succ_self 8)) ea_nil) (fun z => hne h1 h2 (List.map_eq_nil_iff.mp z)))) ?_)
      unfold thingB
      rw [h1, h2, List.length_map]
      rfl
  · exact sd_ifThen (et_or (c := true) (k := true) (EtP.is (et_not (et_B (ev_call (F := FIsDraw) (ea_cons (ev_var rfl) (ea_cons (ev_var rfl) ea_nil)) ⟨L, W, u, rfl, hT.hL, .inr ⟨hk, rfl⟩⟩))) rfl) fun h => nomatch h) (fun _ => ⟨sd_ret ev_bl, fun _ z => nomatch z⟩) fun h => nomatch h
end
end SP
set_option Elab.async false
set_option linter.all false
set_option maxRecDepth 100000
set_option maxHeartbeats 1000000
/-! Stillpanes: stays_to, out_by. -/
namespace SP
open PySem L2 PySem.Spec PyProof.Rows
section
variable {P : Program} {w : World} {K : PySem.W.Frag} {mg : Str → Option Value} {base : Heap}
/-! ### stays_to -/
def leftB (L : Lay) (ls : List (List Nat × Int)) (W : Nat) (dr : List Nat) (i : Nat) : Bool := !decide (cntAt L.rows.length dr (i + 1) ∈ keptAt L ls W (i + 1))
def stayO (L : Lay) (ls : List (List Nat × Int)) (W : Nat) (dr : List Nat) : Option Nat := if List.replicate L.rows.length 0 ∈ keptAt L ls W 0 then some (((List.range W).find? (leftB L ls W dr)).getD W) else none
def FStays (ds : List D) (o : Option D) : Prop := ∃ (L : Lay) (W : Nat) (dr : List Nat) (ls : List (List Nat × Int)) (x y z : D), ds = [x, y, z] ∧ Told L W dr ls x y z ∧ o = (stayO L ls W dr).map fun n => .int (n : Int)
abbrev keptD (L : Lay) (ls : List (List Nat × Int)) (W : Nat) : D := .lst ((List.range (W + 1)).map fun w => .dct (dB (keptAt L ls W w)))
theorem sc_stays_to : FnScope ["layout", "drawing", "limits", "own", "laid", "states", "counts", "place", "pane"] ["layout", "drawing", "limits"] (defScope (top 25)) := ⟨rfl, rfl, rfl, by decide +kernel, rfl, by decide +kernel, by decide +kernel⟩
theorem ok_stays_to (T : Txt mg) {C : Addr} (XC : XCan K mg C) (h_tuple_of : Has P w K mg base "tuple_of" ["thing"] 4 (SpR (FTup 3))) (h_kept_states : Has P w K mg base "kept_states" ["layout", "limits"] 3 (SpR FKept)) (h_counts_more : Has P w K mg base "counts_more" ["counts", "pane"] 1 (SpR FMore)) {f : Addr} {fd : FuncData} (Fn : Fun K "stays_to" "stays_to" (top 25) f fd) : FnOk P w K mg base (L2.CX P w) 5 f fd ["layout", "drawing", "limits"] (SpE C FStays) := by
  refine ok_nstE (k := 4) Fn sc_stays_to (fun ds o ⟨L, W, dr, ls, x, y, z, e, hT, eo⟩ => by
    subst e eo
    refine ⟨rfl, nst3 hT.nx hT.ny hT.nz, fun d hd => ?_⟩
    obtain ⟨i, _, rfl⟩ := Option.map_eq_some_iff.mp hd
    exact .int _) fun cdv A outer s H E ds o hr ⟨L, W, dr, ls, x, y, z, e, hT, eo⟩ => ?_
  subst e eo
  have hr_tuple_of := hr
  have hr_kept_states := hr.mono (by decide : 3 ≤ 4)
  have hr_counts_more := hr.mono (by decide : 1 ≤ 4)
  have hu1 := un_of (n := 1) hr
  have n1 := hT.hL.n1
  have hdl := hT.hd.1
  refine ⟨_, (pss_cons (ps_par (i := 3) (j := 4) rfl sc_stays_to.nd rfl rfl (by decide) rfl rfl (pa_cons (pe_has h_tuple_of hr_tuple_of (by rfl) (pa_cons (pv 0) pa_nil) pass0) (pa_cons (pe_has h_tuple_of hr_tuple_of (by rfl) (pa_cons (pv 1) pa_nil) pass0) pa_nil)) rfl)
      (pss_cons (ps_par (i := 5) (j := 6) rfl sc_stays_to.nd rfl rfl (by decide) rfl rfl (pa_cons (pe_has h_kept_states hr_kept_states (by rfl) (pa_cons (pv 3) (pa_cons (pe_has h_tuple_of hr_tuple_of (by rfl) (pa_cons (pv 2) pa_nil) pass0) pa_nil)) pass0) (pa_cons (pe_op (repT_ K) (pe_tup (pa_cons pe_int pa_nil)) (pe_callB (len_ K) (by rfl) T.len_ bt_len (pa_cons (pe_ix (ixT_ K) (pv 3) pe_int (fun _ _ => rfl)) pa_nil))) pa_nil)) rfl)
      (pss_cons (ps_if (pt_cmp (pc_dnotin hu1 (pv 6) (pe_ix (ixL_ K) (pv 5) pe_int (fun _ _ => rfl))))
      (pss_one (ps_raise rfl (takes_of rfl rfl rfl rfl) (pmk_own0 PySem.F.excBase_ValueError XC.q XC.g XC.k (raises_own XC.sub XC.typ) (by rfl))))
      pss_nil)
      (pss_cons (ps_for (passes_of rfl) rfl (eT_ K (by rfl) T.enumerate_ (pa_cons (pv 4) pa_nil)) (gT_ K (n := 2) rfl (pgs_cons (pg_name (i := 7) sc_stays_to.nd rfl (Or.inl rfl)) (pgs_cons (pg_name (i := 8) sc_stays_to.nd rfl (Or.inl rfl)) pgs_nil)))
      (pss_cons (ps_set (i := 6) sc_stays_to.nd rfl (Or.inl rfl) (pe_has h_counts_more hr_counts_more (by rfl) (pa_cons (pv 6) (pa_cons (pv 8) pa_nil)) pass0))
      (pss_one (ps_if (pt_cmp (pc_dnotin hu1 (pv 6) (pe_ix (ixL_ K) (pv 5) (pe_op op_add (pv 7) pe_int) (fun _ _ => rfl))))
      (pss_one (ps_ret (pv 7)))
      pss_nil))))
      (pss_one (ps_ret (pe_callB (len_ K) (by rfl) T.len_ bt_len (pa_cons (pv 4) pa_nil)))))))), ?_⟩
  refine sd_seq (sd_par (ea_cons (ev_told (ev_var rfl) hT.nx hT.ex) (ea_cons (ev_told (ev_var rfl) hT.ny hT.ey) ea_nil))) ?_
  refine sd_seq (sd_par (ea_cons (ev_call (F := FKept) (ea_cons (ev_var rfl) (ea_cons (ev_told (ev_var rfl) hT.nz hT.ez) ea_nil)) ⟨L, W, ls, rfl, hT.hL, hT.hl, hT.h4, rfl⟩) (ea_cons (ev_zeros hT.hL (ev_many (ev_var rfl))) ea_nil))) ?_
  refine sd_ifThen (et_B (EvP.is (ev_dnotin (ev_var rfl) (ev_ixL (ev_var rfl) ev_int (atI_rng (f := fun w => D.dct (dB (keptAt L ls W w))) (i := 0) (by omega))) rfl) (by rw [valDB]))) (fun hb => ?_) fun hb => ?_
  · have hz : ¬ List.replicate L.rows.length (0 : Int) ∈ keptAt L ls W 0 := by simpa using hb
    have e : stayO L ls W dr = none := if_neg hz
    rw [e]
    exact ⟨sd_ex fun Dn σ H q => q, fun _ z => nomatch z⟩
  · have hz : List.replicate L.rows.length (0 : Int) ∈ keptAt L ls W 0 := by simpa using hb
    have e : stayO L ls W dr = some _ := if_pos hz
    rw [e]
    refine sd_ixS (vs := [7, 8]) (fun i => [some x, some y, some z, some L.d, some (nats dr), some (keptD L ls W), some (keyD (cntAt L.rows.length dr i)), none, none]) (leftB L ls W dr) (fun i => .rt (.int (i : Int))) [7, 8] (IvP.is (iv_enumT (ea_cons (ev_var rfl) ea_nil)) (enum_map _ dr)) rfl (fun i d hd hj => ?_) (fun _ _ z => nomatch z) (fun i hi hb hj => ?_) (fun hall => ?_)
    · obtain ⟨p, hp, rfl⟩ := enum_item (g := fun (n : Nat) => D.int (n : Int)) hd
      have hpm : p < L.rows.length := hT.hd.2 p (List.mem_of_getElem? hp)
      have hiW : i < W := by
        rw [← hdl]
        exact (List.getElem?_eq_some_iff.mp hp).1
      refine ⟨_, [some x, some y, some z, some L.d, some (nats dr), some (keptD L ls W), some (keyD (cntAt L.rows.length dr (i + 1))), some (.int (i : Nat)), some (.int ((p : Nat) : Int))], gd_tup (gs_cons gd_name (gs_cons gd_name gs_nil)) rfl, rfl, sd_seq (sd_set (d := keyD (cntAt L.rows.length dr (i + 1))) (ev_call (F := FMore) (ea_cons (ev_var rfl) (ea_cons (ev_var rfl) ea_nil)) ⟨cntAt L.rows.length dr i, p, rfl, by rw [cntAt_len]; exact hpm, by rw [cntAt_len]; omega, by rw [cntAt_succ hp]⟩)) (sd_ifB (c := leftB L ls W dr i) (et_B (EvP.is (ev_dnotin (ev_var rfl) (ev_ixL (ev_var rfl) (ev_add (ev_var rfl) ev_int) (atI_rng (f := fun w => D.dct (dB (keptAt L ls W w))) (i := i + 1) (by omega))) rfl) (by rw [valDB]; rfl))) (fun _ => sd_ret (ev_var rfl)) fun _ => sd_next)⟩
    · rw [List.length_map, List.length_zipIdx, hdl] at hi
      rw [find_first hi hb hj]
      rfl
    · rw [find_none' fun i hi => hall i (by rw [List.length_map, List.length_zipIdx, hdl]; exact hi)]
      exact sd_ret (EvP.is (ev_lenT (ea_cons (ev_var rfl) ea_nil)) (by rw [List.length_map, hdl]; rfl))
/-! ### out_by -/
/-- how many of the first w pixels lie in the panes of g -/
def cntIn (dr g : List Nat) (w : Nat) : Int := ((dr.take w).filter fun p => decide (p ∈ g)).length
def outL (L : Lay) (dr : List Nat) (l : List Nat × Int) (w : Nat) : Option Int := outAt L l.1 l.2 w (cntIn dr l.1 w)
def fdW (L : Lay) (dr : List Nat) (l : List Nat × Int) (s : Int) (w : Nat) : Int := (List.range w).foldl (fun acc v => max acc ((outL L dr l v).getD 0)) s
def fdL (L : Lay) (dr : List Nat) (W : Nat) (ls : List (List Nat × Int)) : Int := ls.foldl (fun acc l => fdW L dr l acc (W + 1)) 0
def badL (L : Lay) (dr : List Nat) (W : Nat) (l : List Nat × Int) : Bool := (List.range (W + 1)).any fun w => (outL L dr l w).isNone
def outO (L : Lay) (dr : List Nat) (W : Nat) (ls : List (List Nat × Int)) : Option Int := if ls.any (badL L dr W) = true then none else some (fdL L dr W ls)
def FOutBy (ds : List D) (o : Option D) : Prop := ∃ (L : Lay) (W : Nat) (dr : List Nat) (ls : List (List Nat × Int)) (x y z : D), ds = [x, y, z] ∧ Told L W dr ls x y z ∧ o = (outO L dr W ls).map .int
theorem cntIn_zero (dr g : List Nat) : cntIn dr g 0 = 0 := rfl
theorem cntIn_succ {dr g : List Nat} {w p : Nat} (h : dr[w]? = some p) : cntIn dr g (w + 1) = cntIn dr g w + (if p ∈ g then 1 else 0) := by
  unfold cntIn
  rw [List.take_add_one, h, List.filter_append, List.length_append]
  by_cases hp : p ∈ g
  · simp [hp]
  · simp [hp]
theorem sc_out_by : FnScope ["layout", "drawing", "limits", "own", "laid", "found", "group", "off", "many", "width"] ["layout", "drawing", "limits"] (defScope (top 27)) := ⟨rfl, rfl, rfl, by decide +kernel, rfl, by decide +kernel, by decide +kernel⟩
theorem ok_out_by (T : Txt mg) {C : Addr} (XC : XCan K mg C) (h_tuple_of : Has P w K mg base "tuple_of" ["thing"] 4 (SpR (FTup 3))) (h_out_at : Has P w K mg base "out_at" ["layout", "group", "off", "width", "many"] 1 (SpE C FOutAt)) {f : Addr} {fd : FuncData} (Fn : Fun K "out_by" "out_by" (top 27) f fd) : FnOk P w K mg base (L2.CX P w) 5 f fd ["layout", "drawing", "limits"] (SpE C FOutBy) := by
  refine ok_nstE (k := 4) Fn sc_out_by (fun ds o ⟨L, W, dr, ls, x, y, z, e, hT, eo⟩ => by
    subst e eo
    refine ⟨rfl, nst3 hT.nx hT.ny hT.nz, fun d hd => ?_⟩
    obtain ⟨i, _, rfl⟩ := Option.map_eq_some_iff.mp hd
    exact .int _) fun cdv A outer s H E ds o hr ⟨L, W, dr, ls, x, y, z, e, hT, eo⟩ => ?_
  subst e eo
  have hr_tuple_of := hr
  have hr_out_at := hr.mono (by decide : 1 ≤ 4)
  have hdl := hT.hd.1
  have w1 := hT.hL.w1
  refine ⟨_, (pss_cons (ps_par3 (i := 3) (j := 4) (l := 5) rfl sc_out_by.nd rfl rfl rfl (by decide) (by decide) (by decide) rfl rfl rfl (pa_cons (pe_has h_tuple_of hr_tuple_of (by rfl) (pa_cons (pv 0) pa_nil) pass0) (pa_cons (pe_has h_tuple_of hr_tuple_of (by rfl) (pa_cons (pv 1) pa_nil) pass0) (pa_cons pe_int pa_nil))) rfl)
      (pss_cons (ps_for (passes_of rfl) rfl (iT_ K (pe_has h_tuple_of hr_tuple_of (by rfl) (pa_cons (pv 2) pa_nil) pass0)) (gT_ K (n := 2) rfl (pgs_cons (pg_name (i := 6) sc_out_by.nd rfl (Or.inl rfl)) (pgs_cons (pg_name (i := 7) sc_out_by.nd rfl (Or.inl rfl)) pgs_nil)))
      (pss_cons (ps_set (i := 8) sc_out_by.nd rfl (Or.inl rfl) pe_int)
      (pss_one (ps_for (passes_of rfl) rfl (pi_range1 (by rfl) T.range_ (pa_cons (pe_op op_add (pe_callB (len_ K) (by rfl) T.len_ bt_len (pa_cons (pv 4) pa_nil)) pe_int) pa_nil)) (pg_name (i := 9) sc_out_by.nd rfl (Or.inl rfl))
      (pss_cons (ps_set (i := 8) sc_out_by.nd rfl (Or.inl rfl) (pe_op op_add (pv 8) (pe_callTy call_int1 (by rfl) T.int_ bt_int (pa_cons (pe_and (pe_cmpR op_gt (pv 9) pe_int (nomark _)) (pe_one (pe_cmpR (inS_ K) (pe_ix (ixT_ K) (pv 4) (pe_op op_sub (pv 9) pe_int) (fun _ _ => rfl)) (pv 6) rfl))) pa_nil))))
      (pss_one (ps_set (i := 5) sc_out_by.nd rfl (Or.inl rfl) (pe_callB (call_max2 rfl) (by rfl) T.max_ bt_max (pa_cons (pv 5) (pa_cons (pe_has h_out_at hr_out_at (by rfl) (pa_cons (pv 3) (pa_cons (pv 6) (pa_cons (pv 7) (pa_cons (pv 9) (pa_cons (pv 8) pa_nil))))) (fun σ => passAt (takes_of rfl rfl rfl rfl) σ)) pa_nil))))))))))
      (pss_one (ps_ret (pv 5))))), ?_⟩
  refine sd_seq (sd_par3 (ea_cons (ev_told (ev_var rfl) hT.nx hT.ex) (ea_cons (ev_told (ev_var rfl) hT.ny hT.ey) (ea_cons ev_int ea_nil)))) ?_
  refine sd_ixS (vs := [6, 7]) (fun i => [some x, some y, some z, some L.d, some (nats dr), some (.int (fdL L dr W (ls.take i))), none, none, none, none]) (fun i => badL L dr W (ls.getD i ([], 0))) (fun i => .ex) [6, 7, 8, 9] (iv_tup (ds := ls.map limD) (ev_told (ev_var rfl) hT.nz hT.ez)) rfl (fun i d hd hj => ?_) (fun _ _ z => nomatch z) (fun i hi hb hj => ?_) (fun hall => ?_)
  · rw [List.getElem?_map] at hd
    obtain ⟨l, hl, rfl⟩ := Option.map_eq_some_iff.mp hd
    have hlm : l ∈ ls := List.mem_of_getElem? hl
    have hgl : ls.getD i ([], 0) = l := by
      rw [List.getD_eq_getElem?_getD, hl]
      rfl
    rw [hgl]
    have hfd : fdL L dr W (ls.take (i + 1)) = fdW L dr l (fdL L dr W (ls.take i)) (W + 1) := by
      unfold fdL
      rw [List.take_add_one, hl, List.foldl_append]
      rfl
    refine ⟨_, [some x, some y, some z, some L.d, some (nats dr), some (.int (fdL L dr W (ls.take (i + 1)))), some (nats l.1), some (.int l.2), some (.int (cntIn dr l.1 W)), none], gd_tup (gs_cons gd_name (gs_cons gd_name gs_nil)) rfl, rfl, sd_seq (sd_set ev_int) ?_⟩
    refine sd_ix (vs := [9]) (fun v => [some x, some y, some z, some L.d, some (nats dr), some (.int (fdW L dr l (fdL L dr W (ls.take i)) v)), some (nats l.1), some (.int l.2), some (.int (cntIn dr l.1 (v - 1))), none]) (fun v => (outL L dr l v).isNone) (fun i => .ex) [9] (IvP.is (iv_rng1 (n := W + 1) (ea_cons (ev_add (ev_lenT (ea_cons (ev_var rfl) ea_nil)) ev_int) ea_nil) (by rw [List.length_map, hdl]; omega) (by rw [List.length_map, hdl]; omega)) (rng0 _)) rfl (fun v d hd hj => ?_) (fun _ _ z => nomatch z) (fun v hv hb hj => ?_) (fun hall => ?_)
    · obtain ⟨hv, rfl⟩ := rng_items hd
      refine ⟨_, [some x, some y, some z, some L.d, some (nats dr), some (.int (fdW L dr l (fdL L dr W (ls.take i)) (v + 1))), some (nats l.1), some (.int l.2), some (.int (cntIn dr l.1 v)), some (.int (v : Int))], gd_1, rfl, sd_seq (qs := [some x, some y, some z, some L.d, some (nats dr), some (.int (fdW L dr l (fdL L dr W (ls.take i)) v)), some (nats l.1), some (.int l.2), some (.int (cntIn dr l.1 v)), some (.int (v : Int))]) (SdP.is (sd_set (d := .int (cntIn dr l.1 v)) (EvP.is (ev_add (ev_var rfl) (ev_intB (c := decide (0 < v) && decide (dr.getD (v - 1) 0 ∈ l.1)) (ea_cons (ev_andV (EvP.is (ev_gt (ev_var rfl) ev_int) ?_) fun hz => EvP.is (ev_inT (ns := l.1.map fun (n : Nat) => (n : Int)) (ev_ixT (d := .int ((dr.getD (v - 1) 0 : Nat) : Int)) (ev_var rfl) (ev_sub (ev_var rfl) ev_int) ?_) (EvP.is (ev_var rfl) (nats_key l.1))) ?_) ea_nil))) ?_)) rfl) ?_⟩
      · congr 1
        by_cases h : 0 < v
        · rw [decide_eq_true h, decide_eq_true (by omega)]
        · rw [decide_eq_false h, decide_eq_false (by omega)]
      · have h0 : 0 < v := by simpa using hz
        have e1 : (v : Int) - 1 = ((v - 1 : Nat) : Int) := by omega
        rw [e1]
        exact atI_mapN (g := fun (n : Nat) => D.int (n : Int)) 0 (by omega)
      · congr 1
        exact mem_cast
      · congr 1
        cases v with
        | zero => rfl
        | succ v =>
          have hv' : v < dr.length := by omega
          have hget : dr[v]? = some dr[v] := List.getElem?_eq_getElem hv'
          have hgd : dr.getD v 0 = dr[v] := by
            rw [List.getD_eq_getElem?_getD, hget]
            rfl
          rw [cntIn_succ hget, Nat.add_sub_cancel, hgd]
          congr 1
          have h1 : decide (0 < v + 1) = true := decide_eq_true (by omega)
          rw [h1, Bool.true_and]
          by_cases hm : dr[v] ∈ l.1
          · rw [if_pos hm, decide_eq_true hm, if_pos rfl]
          · rw [if_neg hm, decide_eq_false hm, if_neg (by decide)]
      · have hF : FOutAt [L.d, nats l.1, .int l.2, .int (v : Int), .int (cntIn dr l.1 v)] ((outL L dr l v).map .int) := ⟨L, W, l.1, l.2, v, cntIn dr l.1 v, rfl, hT.hL, hT.hl.ix l hlm, hT.hl.g1 l hlm, by omega, rfl⟩
        have hfw : fdW L dr l (fdL L dr W (ls.take i)) (v + 1) = max (fdW L dr l (fdL L dr W (ls.take i)) v) ((outL L dr l v).getD 0) := by
          unfold fdW
          rw [List.range_succ, List.foldl_append]
          rfl
        cases ho : outL L dr l v with
        | none =>
          rw [ho] at hF
          rw [Option.isNone_none, if_pos rfl]
          exact sd_max2X rfl (ea_cons (ev_var rfl) (ea_cons (ev_var rfl) (ea_cons (ev_var rfl) (ea_cons (ev_var rfl) (ea_cons (ev_var rfl) ea_nil))))) hF fun σ H q => q
        | some k =>
          rw [ho] at hF hfw
          rw [Option.isNone_some, if_neg (by decide), hfw]
          exact SdP.is (sd_set (ev_max2 (ea_cons (ev_var rfl) (ea_cons (ev_callE (ea_cons (ev_var rfl) (ea_cons (ev_var rfl) (ea_cons (ev_var rfl) (ea_cons (ev_var rfl) (ea_cons (ev_var rfl) ea_nil))))) hF) ea_nil)))) rfl
    · rw [List.length_map, List.length_range] at hv
      have : badL L dr W l = true := List.any_eq_true.mpr ⟨v, List.mem_range.mpr hv, hb⟩
      rw [this, if_pos rfl]
    · have : badL L dr W l = false := by
        apply Bool.eq_false_iff.mpr
        intro z
        obtain ⟨v, hv, hb⟩ := List.any_eq_true.mp z
        have := hall v (by rw [List.length_map, List.length_range]; exact List.mem_range.mp hv)
        rw [this] at hb
        cases hb
      rw [this, if_neg (by decide), List.length_map, List.length_range, hfd]
      rfl
  · rw [List.length_map] at hi
    have hm : ls.getD i ([], 0) ∈ ls := by
      rw [List.getD_eq_getElem?_getD, List.getElem?_eq_getElem hi]
      exact List.getElem_mem hi
    have e : outO L dr W ls = none := if_pos (List.any_eq_true.mpr ⟨_, hm, hb⟩)
    rw [e]
    rfl
  · have hno : ¬ ls.any (badL L dr W) = true := fun z => by
      obtain ⟨l, hl, hb⟩ := List.any_eq_true.mp z
      obtain ⟨i, hi, rfl⟩ := List.mem_iff_getElem.mp hl
      have := hall i (by rw [List.length_map]; exact hi)
      rw [List.getD_eq_getElem?_getD, List.getElem?_eq_getElem hi] at this
      have this : badL L dr W ls[i] = false := this
      rw [this] at hb
      cases hb
    have e : outO L dr W ls = some _ := if_neg hno
    rw [e]
    refine sd_ret (EvP.is (ev_var rfl) ?_)
    rw [List.length_map, List.take_length]
end
end SP
set_option Elab.async false
set_option linter.all false
set_option maxRecDepth 100000
set_option maxHeartbeats 1000000
/-! Stillpanes: must_move. -/
namespace SP
open PySem L2 PySem.Spec PyProof.Rows
section
variable {P : Program} {w : World} {K : PySem.W.Frag} {mg : Str → Option Value} {base : Heap}
/-! ### must_move -/
def mustB (L : Lay) (ls : List (List Nat × Int)) (W : Nat) (dr : List Nat) (i : Nat) : Bool := !((keptAt L ls W i).any fun c => decide (moreZ c (dr.getD i 0) ∈ keptAt L ls W (i + 1)))
def mustN (L : Lay) (ls : List (List Nat × Int)) (W : Nat) (dr : List Nat) : List Nat := (List.range W).filter (mustB L ls W dr)
def FMust (ds : List D) (d : D) : Prop := ∃ (L : Lay) (W : Nat) (dr : List Nat) (ls : List (List Nat × Int)) (x y z : D), ds = [x, y, z] ∧ Told L W dr ls x y z ∧ d = nats (mustN L ls W dr)
theorem kept_len {L : Lay} {W : Nat} {dr : List Nat} {ls : List (List Nat × Int)} (h4 : ∀ j, j ≤ W → (stAt L ls j).length ≤ 4000) {j : Nat} (hj : j ≤ W) : (keptAt L ls W j).length ≤ 4000 :=
  Nat.le_trans (len_sub _ _ (keptAt_nodup hj) (keptAt_sub hj)) (h4 j hj)
theorem sc_must_move : FnScope ["layout", "drawing", "limits", "own", "laid", "states", "found", "place", "pane", "counts"] ["layout", "drawing", "limits"] (defScope (top 24)) := ⟨rfl, rfl, rfl, by decide +kernel, rfl, by decide +kernel, by decide +kernel⟩
theorem ok_must_move (T : Txt mg) (h_tuple_of : Has P w K mg base "tuple_of" ["thing"] 4 (SpR (FTup 3))) (h_kept_states : Has P w K mg base "kept_states" ["layout", "limits"] 3 (SpR FKept)) (h_counts_more : Has P w K mg base "counts_more" ["counts", "pane"] 1 (SpR FMore)) {f : Addr} {fd : FuncData} (Fn : Fun K "must_move" "must_move" (top 24) f fd) : FnOk P w K mg base (L2.CX P w) 5 f fd ["layout", "drawing", "limits"] (SpR FMust) := by
  refine ok_low (k := 4) Fn sc_must_move (fun ds d ⟨L, W, dr, ls, x, y, z, e, hT, _⟩ => by
    subst e
    exact ⟨rfl, nst3 hT.nx hT.ny hT.nz⟩) fun cdv A outer s H E ds d hr ⟨L, W, dr, ls, x, y, z, e, hT, ed⟩ => ?_
  subst e ed
  have hr_tuple_of := hr
  have hr_kept_states := hr.mono (by decide : 3 ≤ 4)
  have hr_counts_more := hr.mono (by decide : 1 ≤ 4)
  have hu1 := un_of (n := 1) hr
  have n1 := hT.hL.n1
  have w1 := hT.hL.w1
  have hdl := hT.hd.1
  refine ⟨_, (pss_cons (ps_par (i := 3) (j := 4) rfl sc_must_move.nd rfl rfl (by decide) rfl rfl (pa_cons (pe_has h_tuple_of hr_tuple_of (by rfl) (pa_cons (pv 0) pa_nil) pass0) (pa_cons (pe_has h_tuple_of hr_tuple_of (by rfl) (pa_cons (pv 1) pa_nil) pass0) pa_nil)) rfl)
      (pss_cons (ps_asg (pe_tup (pa_cons (pe_has h_kept_states hr_kept_states (by rfl) (pa_cons (pv 3) (pa_cons (pe_has h_tuple_of hr_tuple_of (by rfl) (pa_cons (pv 2) pa_nil) pass0) pa_nil)) pass0) (pa_cons (pe_lst pa_nil) pa_nil))) (gT_ K (n := 2) rfl (pgs_cons (pg_name (i := 5) sc_must_move.nd rfl (Or.inr rfl)) (pgs_cons (pg_name (i := 6) sc_must_move.nd rfl (Or.inl rfl)) pgs_nil))))
      (pss_cons (ps_for (passes_of rfl) rfl (eT_ K (by rfl) T.enumerate_ (pa_cons (pv 4) pa_nil)) (gT_ K (n := 2) rfl (pgs_cons (pg_name (i := 7) sc_must_move.nd rfl (Or.inr rfl)) (pgs_cons (pg_name (i := 8) sc_must_move.nd rfl (Or.inr rfl)) pgs_nil)))
      (pss_one (ps_if (pt_not (pt_val (pe_callB (any_ K rfl) (by rfl) T.any_ bt_any (pa_cons (pe_lock (pe_lc (own := [("counts", 9)]) rfl sc_must_move.nd (pi_keys (pe_ix (ixL_ K) (pv 5) (pv 7) (fun _ _ => rfl))) (blkOk_by (by rfl)) (fun _ _ _ _ _ => (pg_name (i := 9) sc_must_move.nd rfl (Or.inl rfl))) (fun _ _ _ _ _ => pts_nil) (fun _ _ _ _ _ => (pe_cmp (pc_din hu1 (pe_has h_counts_more hr_counts_more (by rfl) (pa_cons (pv 9) (pa_cons (pv 8) pa_nil)) pass0) (pe_ix (ixL_ K) (pv 5) (pe_op op_add (pv 7) pe_int) (fun _ _ => rfl))))))) pa_nil))))
      (pss_one (ps_expr (pe_bm PySem.F.plainAttrs_list PySem.F.slot_list_append PySem.F.type_list_append mt_append (pv 6) (pa_cons (pv 7) pa_nil))))
      pss_nil)))
      (pss_one (ps_ret (pe_callTy (tup_ K) (by rfl) T.tuple_ bt_tuple (pa_cons (pv 6) pa_nil))))))), fun σ Dn a0 fin => ?_⟩
  refine tseq_ (a0.sd (W := fun _ _ => False) (sd_par (ea_cons (ev_told (ev_var rfl) hT.nx hT.ex) (ea_cons (ev_told (ev_var rfl) hT.ny hT.ey) ea_nil))) fun σ1 H1 e1 a1 => ?_)
  dsimp only
  have a1 : At true (noD H) H [] (fun _ => none) [some x, some y, some z, some L.d, some (nats dr), none, none, none, none, none] σ1 H1 := a1
  refine tseq_ (a1.tupL (ev_call (F := FKept) (ea_cons (ev_var rfl) (ea_cons (ev_told (ev_var rfl) hT.nz hT.ez) ea_nil)) ⟨L, W, ls, rfl, hT.hL, hT.hl, hT.h4, rfl⟩) fun v q H2 e2 hqA hq0 a2' r2 => ?_)
  dsimp only
  obtain ⟨sq, xs0, rfl, eq, rl⟩ := R.lst_ r2
  have a2 : At true (noD H) H [q] _ [none, none, none, some L.d, some (nats dr), some (.adr sq), some (.adr q), none, none, none] _ H2 := ((a2'.set 5 (.adr sq)).set 6 (.adr q)).fgt [0, 1, 2] rfl
  -- for place, pane in enumerate(laid)
  refine tseq_ (a2.forG (items := dr.zipIdx.map fun p => D.tup [.int (p.2 : Nat), D.int ((p.1 : Nat) : Int)]) (fun i G C ps => C q = some (.lst (((List.range i).filter (mustB L ls W dr)).map fun n => V.int (n : Nat))) ∧ R true G (.ref sq) (keptD L ls W) ∧ ps = [none, none, none, some L.d, some (nats dr), some (.adr sq), some (.adr q), none, none, none]) (fun i G G' C ps ⟨h1, h2, h3⟩ s => ⟨h1, h2.same s, h3⟩)
    (IvP.is (iv_enumT (ea_cons (ev_var rfl) ea_nil)) (enum_map _ dr)) ⟨upd_same, r2, rfl⟩ (fun H3 i dd σ' H' v' C' ps' f1 hdd f2 a5 ⟨hc, hS, hps⟩ r5 => ?_) fun σ' H' C' ps' f1 a5 ⟨hc, hS, hps⟩ => ?_)
  · -- a pixel's turn
    subst hps
    obtain ⟨pn, hpn, rfl⟩ := enum_nat hdd
    have hi : i < W := by
      have := (List.getElem?_eq_some_iff.mp hpn).1
      rw [hdl] at this
      exact this
    have hpm : pn < L.rows.length := hT.hd.2 pn (List.mem_of_getElem? hpn)
    have hgd : dr.getD i 0 = pn := by
      rw [List.getD_eq_getElem?_getD, hpn]
      rfl
    have hl : ((List.range i).filter (mustB L ls W dr)).length ≤ 100000 := by
      have := List.length_filter_le (mustB L ls W dr) (List.range i)
      rw [List.length_range] at this
      omega
    have hstep : ((List.range (i + 1)).filter (mustB L ls W dr)) = ((List.range i).filter (mustB L ls W dr)) ++ (if mustB L ls W dr i = true then [i] else []) := by
      rw [List.range_succ, List.filter_append]
      congr 1
      simp [List.filter_cons]
    refine a5.gd (vs := [7, 8]) (gd_tup (gs_cons gd_name (gs_cons gd_name gs_nil)) rfl) r5 fun σ2 a6 => ?_
    refine (a6.recall (j := 5) rfl hS).etP (et_not (c := !mustB L ls W dr i) (et_B (EvP.is (ev_any (ea_cons (ev_lockI (j := 5) (i := i) (ks := dB (keptAt L ls W i)) (ys := ((keptAt L ls W i).map fun c => decide (moreZ c pn ∈ keptAt L ls W (i + 1))).map .bl) rfl ?_ ?_ (ev_lcA (keptAt L ls W i) keyD (fun c => [none, none, none, some L.d, some (nats dr), some (.lst (((List.range (W + 1)).map fun w => D.dct (dB (keptAt L ls W w))).set i (.lkd (dB (keptAt L ls W i))))), some (.adr q), some (.int (i : Nat)), some (.int ((pn : Nat) : Int)), some (keyD c)]) (fun c => .bl (decide (moreZ c pn ∈ keptAt L ls W (i + 1)))) (by rw [List.map_map]; rfl) ?_ ?_ (fun c hc => gd_1) fun c hc => EvP.is (ev_din (d := .dct (dB (keptAt L ls W (i + 1)))) (ev_call (F := FMore) (ea_cons (ev_var rfl) (ea_cons (ev_var rfl) ea_nil)) ⟨c, pn, rfl, ?_, ?_, rfl⟩) (ev_ixL (ev_var rfl) (ev_add (ev_var rfl) ev_int) ?_) rfl) (by rw [valDB]))) ea_nil)) ?_))) fun H4 e4 a7' => ?_
    · rw [List.getElem?_map, List.getElem?_range (by omega)]
      rfl
    · intro y hy
      obtain ⟨p, _, rfl⟩ := List.mem_map.mp hy
      exact .bl _
    · have := kept_len hT.h4 (dr := dr) (j := i) (by omega)
      omega
    · refine IvP.is (iv_keys (ks := dB (keptAt L ls W i)) (ev_ixL (ev_var rfl) (ev_var rfl) ?_)) ?_
      · refine atI_nat ?_
        rw [List.getElem?_set_self (by rw [List.length_map, List.length_range]; omega)]
      · unfold dB
        rw [List.map_map]
        rfl
    · rw [stAt_len i c (keptAt_sub (by omega) c hc)]
      exact hpm
    · rw [stAt_len i c (keptAt_sub (by omega) c hc)]
      omega
    · refine atI_nat (j := i + 1) ?_
      rw [List.getElem?_set_ne (by omega), List.getElem?_map, List.getElem?_range (by omega)]
      rfl
    · congr 1
      unfold mustB
      rw [hgd, Bool.not_not, List.any_map]
      rfl
    · have a7 : At true (noD H) H [q] C' [none, none, none, some L.d, some (nats dr), some (.adr sq), some (.adr q), some (.int (i : Nat)), some (.int ((pn : Nat) : Int)), none] σ2 H4 := a6.same' e4
      have hS4 : R true (Gx [q] (noD H) H H4) (.ref sq) (keptD L ls W) := hS.same (a6.up (.of e4) a7.own)
      cases hb : mustB L ls W dr i with
      | true =>
        rw [Bool.not_true, Bool.not_false, if_pos rfl]
        refine a7.append (i := 6) (p := q) rfl (List.mem_singleton.mpr rfl) hc (by rw [List.length_map]; exact hl) (EvP.x (ev_var rfl)) hc fun v H5 e5 a8 r8 => ?_
        refine ⟨(f2.trans (.of e4)).trans e5, _, _, a8.fgt [7, 8] rfl, ?_, hS4.same (a7.up e5 a8.own), rfl⟩
        rw [upd_same, hstep, hb, if_pos rfl, List.map_append, r8.int_]
        rfl
      | false =>
        rw [Bool.not_false, Bool.not_true, if_neg (by decide)]
        refine ⟨f2.trans (.of e4), _, _, a7.fgt [7, 8] rfl, ?_, hS4, rfl⟩
        rw [hstep, hb, if_neg (by decide), List.append_nil]
        exact hc
  · -- return tuple(found)
    subst hps
    have e : dr.zipIdx.length = W := by rw [List.length_zipIdx, hdl]
    rw [List.length_map, e] at hc
    refine a5.ev (evx_tupO (p := q) (ds := (mustN L ls W dr).map fun n => D.int (n : Nat)) (List.mem_singleton.mpr rfl) hc (ea_cons (ev_var rfl) ea_nil) fun G => ?_) fun v H4 e4 a6 r6 => ?_
    · have z := rl_ints (b := true) (G := G) ((mustN L ls W dr).map fun n => ((n : Nat) : Int))
      rw [List.map_map, List.map_map] at z
      exact z
    · exact fin _ _ (a6.sameN fun c m => by rw [List.mem_singleton.mp m]; exact hq0) (a6.immV r6 (nats_imm _))
end
end SP
set_option Elab.async false
set_option linter.all false
set_option maxRecDepth 100000
set_option maxHeartbeats 1000000
/-! Stillpanes: can_stay. -/
namespace SP
open PySem L2 PySem.Spec PyProof.Rows
theorem At.toAdr {b : Bool} {G0 H0 : Hp} {A : List Addr} {C : Hp} {ps : Ds} {σ : L2.St} {H : Hp} (a : At b G0 H0 A C ps σ H) {j : Nat} {q : Addr} (ev : σ[j]? = some (some (.ref q))) : At b G0 H0 A C (ps.set j (some (.adr q))) σ H := by
  have z := a.set j (.adr q)
  rw [set_self ev] at z
  exact z
/-! ### can_stay -/
def panesAt (L : Lay) (dr px : List Nat) (i : Nat) : List Nat := if i ∈ px then [dr.getD i 0] else List.range L.rows.length
def lateF (L : Lay) (dr px : List Nat) (i : Nat) (l : List (List Int)) (c : List Int) : List (List Int) := mergeB l ((panesAt L dr px i).map (moreZ c))
def nowAt (L : Lay) (ls : List (List Nat × Int)) (dr px : List Nat) : Nat → List (List Int)
  | 0 => [List.replicate L.rows.length 0]
  | i + 1 => ((nowAt L ls dr px i).foldl (lateF L dr px i) []).filter fun c => decide (c ∈ stAt L ls (i + 1))
def canB (L : Lay) (ls : List (List Nat × Int)) (W : Nat) (dr px : List Nat) : Bool := !decide (nowAt L ls dr px W = [])
theorem lateF_nodup {L : Lay} {dr px : List Nat} {i : Nat} : ∀ (cs l : List (List Int)), l.Nodup → (cs.foldl (lateF L dr px i) l).Nodup
  | [], _, h => h
  | c :: cs, l, h => lateF_nodup cs _ (mergeB_nodup _ _ h)
theorem panesAt_len {L : Lay} {dr px : List Nat} {i : Nat} (hn : 1 ≤ L.rows.length) : (panesAt L dr px i).length ≤ L.rows.length := by
  unfold panesAt
  split
  · exact hn
  · rw [List.length_range]; exact Nat.le_refl _
theorem lateF_len {L : Lay} {dr px : List Nat} {i : Nat} (hn : 1 ≤ L.rows.length) : ∀ (cs l : List (List Int)), (cs.foldl (lateF L dr px i) l).length ≤ l.length + cs.length * L.rows.length
  | [], l => by simp
  | c :: cs, l => by
    have h1 := lateF_len (dr := dr) (px := px) (i := i) hn cs (lateF L dr px i l c)
    have h2 : (lateF L dr px i l c).length ≤ l.length + L.rows.length := by
      have := mergeB_len ((panesAt L dr px i).map (moreZ c)) l
      rw [List.length_map] at this
      have := panesAt_len (L := L) (dr := dr) (px := px) (i := i) hn
      unfold lateF
      omega
    rw [List.foldl_cons, List.length_cons, Nat.add_mul]
    omega
theorem nowAt_ok (L : Lay) (ls : List (List Nat × Int)) (dr px : List Nat) : ∀ i, (nowAt L ls dr px i).Nodup ∧ ∀ c ∈ nowAt L ls dr px i, c ∈ stAt L ls i
  | 0 => ⟨by simp [nowAt], fun c hc => hc⟩
  | i + 1 => ⟨(lateF_nodup _ _ (by simp)).filter _, fun c hc => by simpa using (List.mem_filter.mp hc).2⟩
theorem nowAt_len {L : Lay} {W : Nat} {dr px : List Nat} {ls : List (List Nat × Int)} (h4 : ∀ j, j ≤ W → (stAt L ls j).length ≤ 4000) {j : Nat} (hj : j ≤ W) : (nowAt L ls dr px j).length ≤ 4000 :=
  Nat.le_trans (len_sub _ _ (nowAt_ok L ls dr px j).1 (nowAt_ok L ls dr px j).2) (h4 j hj)
theorem in_nats {i : Nat} {ps : List Nat} : decide (((i : Nat) : Int) ∈ ps.map fun n => ((n : Nat) : Int)) = decide (i ∈ ps) := by
  by_cases h : i ∈ ps
  · rw [decide_eq_true h, decide_eq_true (List.mem_map.mpr ⟨i, h, rfl⟩)]
  · rw [decide_eq_false h, decide_eq_false]
    intro z
    obtain ⟨n, hn, e⟩ := List.mem_map.mp z
    exact h (by have : n = i := by omega
                rw [← this]; exact hn)
section
variable {P : Program} {w : World} {K : PySem.W.Frag} {mg : Str → Option Value} {base : Heap}
def FCan (ds : List D) (d : D) : Prop := ∃ (L : Lay) (W : Nat) (dr : List Nat) (ls : List (List Nat × Int)) (x y z : D) (px : List Nat), ds = [x, y, z, nats px] ∧ Told L W dr ls x y z ∧ L.rows.length ≤ 20 ∧ px.length ≤ 1000 ∧ d = .bl (canB L ls W dr px)
theorem sc_can_stay : FnScope ["layout", "drawing", "limits", "pixels", "own", "laid", "states", "now", "place", "pane", "panes", "later", "counts", "one"] ["layout", "drawing", "limits", "pixels"] (defScope (top 23)) := ⟨rfl, rfl, rfl, by decide +kernel, rfl, by decide +kernel, by decide +kernel⟩
theorem ok_can_stay (T : Txt mg) (h_tuple_of : Has P w K mg base "tuple_of" ["thing"] 4 (SpR (FTup 3))) (h_all_states : Has P w K mg base "all_states" ["layout", "limits"] 2 (SpR FAll)) (h_counts_more : Has P w K mg base "counts_more" ["counts", "pane"] 1 (SpR FMore)) {f : Addr} {fd : FuncData} (Fn : Fun K "can_stay" "can_stay" (top 23) f fd) : FnOk P w K mg base (L2.CX P w) 5 f fd ["layout", "drawing", "limits", "pixels"] (SpR FCan) := by
  refine ok_low (k := 4) Fn sc_can_stay (fun ds d ⟨L, W, dr, ls, x, y, z, px, e, hT, _, hp, _⟩ => by
    subst e
    refine ⟨rfl, fun d hd => ?_⟩
    rcases List.mem_cons.mp hd with rfl | hd
    · exact ⟨3, hT.nx⟩
    · rcases List.mem_cons.mp hd with rfl | hd
      · exact ⟨3, hT.ny⟩
      · rcases List.mem_cons.mp hd with rfl | hd
        · exact ⟨3, hT.nz⟩
        · rw [List.mem_singleton.mp hd]
          exact ⟨1, .tup (fun d hd => by
            obtain ⟨n, _, rfl⟩ := List.mem_map.mp hd
            exact .atom rfl) (by rw [List.length_map]; omega)⟩) fun cdv A outer s H E ds d hr ⟨L, W, dr, ls, x, y, z, px, e, hT, hn20, hpx, ed⟩ => ?_
  subst e ed
  have hr_tuple_of := hr
  have hr_all_states := hr.mono (by decide : 2 ≤ 4)
  have hr_counts_more := hr.mono (by decide : 1 ≤ 4)
  have hu0 := un_of (n := 0) hr
  have hu1 := un_of (n := 1) hr
  have hu4 := un_of (n := 4) hr
  have n0 := hT.hL.n0
  have n1 := hT.hL.n1
  have w1 := hT.hL.w1
  have hdl := hT.hd.1
  refine ⟨_, (pss_cons (ps_par (i := 4) (j := 5) rfl sc_can_stay.nd rfl rfl (by decide) rfl rfl (pa_cons (pe_has h_tuple_of hr_tuple_of (by rfl) (pa_cons (pv 0) pa_nil) pass0) (pa_cons (pe_has h_tuple_of hr_tuple_of (by rfl) (pa_cons (pv 1) pa_nil) pass0) pa_nil)) rfl)
      (pss_cons (ps_asg (pe_tup (pa_cons (pe_has h_all_states hr_all_states (by rfl) (pa_cons (pv 4) (pa_cons (pe_has h_tuple_of hr_tuple_of (by rfl) (pa_cons (pv 2) pa_nil) pass0) pa_nil)) pass0) (pa_cons (pe_dispT hu4 (pe_op (repT_ K) (pe_tup (pa_cons pe_int pa_nil)) (pe_callB (len_ K) (by rfl) T.len_ bt_len (pa_cons (pe_ix (ixT_ K) (pv 4) pe_int (fun _ _ => rfl)) pa_nil))) pe_bl) pa_nil))) (gT_ K (n := 2) rfl (pgs_cons (pg_name (i := 6) sc_can_stay.nd rfl (Or.inr rfl)) (pgs_cons (pg_name (i := 7) sc_can_stay.nd rfl (Or.inl rfl)) pgs_nil))))
      (pss_cons (ps_for (passes_of rfl) rfl (eT_ K (by rfl) T.enumerate_ (pa_cons (pv 5) pa_nil)) (gT_ K (n := 2) rfl (pgs_cons (pg_name (i := 8) sc_can_stay.nd rfl (Or.inr rfl)) (pgs_cons (pg_name (i := 9) sc_can_stay.nd rfl (Or.inl rfl)) pgs_nil)))
      (pss_cons (ps_set (i := 10) sc_can_stay.nd rfl (Or.inl rfl) (pe_ifExp (pt_cmpR (inS_ K) (pv 8) (pv 3) rfl) (pe_lst (pa_cons (pv 9) pa_nil)) (pe_listRg rfl (by rfl) T.list_ (prg_1 (by rfl) T.range_ (pe_callB (len_ K) (by rfl) T.len_ bt_len (pa_cons (pe_ix (ixT_ K) (pv 4) pe_int (fun _ _ => rfl)) pa_nil))))))
      (pss_cons (ps_set (i := 11) sc_can_stay.nd rfl (Or.inl rfl) pe_dnewT)
      (pss_cons (ps_lock (ps_for (passes_of rfl) rfl (pi_keys (pv 7)) (pg_name (i := 12) sc_can_stay.nd rfl (Or.inr rfl))
      (pss_one (ps_expr (pe_bm PySem.F.plainAttrs_dict PySem.F.slot_dict_update PySem.F.type_dict_update (mt_updT rfl hu4) (pv 11) (pa_cons (pe_lc (own := [("one", 13)]) rfl sc_can_stay.nd (iL_ K (pv 10)) (blkOk_by (by rfl)) (fun _ _ _ _ _ => (pg_name (i := 13) sc_can_stay.nd rfl (Or.inl rfl))) (fun _ _ _ _ _ => pts_nil) (fun _ _ _ _ _ => (pe_tup (pa_cons (pe_has h_counts_more hr_counts_more (by rfl) (pa_cons (pv 12) (pa_cons (pv 13) pa_nil)) pass0) (pa_cons pe_bl pa_nil))))) pa_nil))))))
      (pss_one (ps_set (i := 7) sc_can_stay.nd rfl (Or.inl rfl) (pe_callTy (call_dictT rfl hu4) (by rfl) T.dict_ bt_dict (pa_cons (pe_lock (pe_lc (own := [("counts", 12)]) rfl sc_can_stay.nd (pi_keys (pv 11)) (blkOk_by (by rfl)) (fun _ _ _ _ _ => (pg_name (i := 12) sc_can_stay.nd rfl (Or.inl rfl))) (fun _ _ _ _ _ => (pts_one (pt_cmp (pc_din hu1 (pv 12) (pe_ix (ixL_ K) (pv 6) (pe_op op_add (pv 8) pe_int) (fun _ _ => rfl)))))) (fun _ _ _ _ _ => (pe_tup (pa_cons (pv 12) (pa_cons pe_bl pa_nil)))))) pa_nil))))))))
      (pss_one (ps_ret (pe_cmpR (op_neZ hu0) (pv 7) pe_dnewT (nomark _))))))), fun σ Dn a0 fin => ?_⟩
  refine tseq_ (a0.sd (W := fun _ _ => False) (sd_par (ea_cons (ev_told (ev_var rfl) hT.nx hT.ex) (ea_cons (ev_told (ev_var rfl) hT.ny hT.ey) ea_nil))) fun σ1 H1 e1 a1 => ?_)
  dsimp only
  have a1 : At true (noD H) H [] (fun _ => none) [some x, some y, some z, some (nats px), some L.d, some (nats dr), none, none, none, none, none, none, none, none] σ1 H1 := a1
  refine tseq_ (a1.sd (W := fun _ _ => False) (sd_asg (vs := [6, 7]) (ev_tup (ea_cons (ev_call (F := FAll) (ea_cons (ev_var rfl) (ea_cons (ev_told (ev_var rfl) hT.nz hT.ez) ea_nil)) ⟨L, W, ls, rfl, hT.hL, hT.hl, hT.h4, rfl⟩) (ea_cons (ev_dispT (ev_zeros hT.hL (ev_many (ev_var rfl))) ev_bl) ea_nil)) (by simp)) (gd_tup (gs_cons gd_name (gs_cons gd_name gs_nil)) rfl)) fun σ2 H2 e2 a2' => ?_)
  dsimp only
  have a2' : At true (noD H) H [] (fun _ => none) [some x, some y, some z, some (nats px), some L.d, some (nats dr), some (stsD L ls W), some (.dct (dB [List.replicate L.rows.length 0])), none, none, none, none, none, none] σ2 H2 := a2'
  obtain ⟨v6, ev6, r6⟩ := a2'.sl.2 6 _ rfl
  obtain ⟨v7, ev7, r7⟩ := a2'.sl.2 7 _ rfl
  have r6' := r6
  obtain ⟨sq, xs0, rfl, _, _⟩ := R.lst_ r6
  obtain ⟨dq0, rfl, hdq0⟩ := dctB_of r7
  have a2 : At true (noD H) H [] (fun _ => none) [none, none, none, some (nats px), some L.d, some (nats dr), some (.adr sq), some (.adr dq0), none, none, none, none, none, none] σ2 H2 := ((a2'.fgt [0, 1, 2] rfl).toAdr ev6).toAdr ev7
  have him : ∀ {x7 x8 x9 x10 x11 : Option D}, (∀ d, x7 = some d → Imm d) → (∀ d, x8 = some d → Imm d) → (∀ d, x9 = some d → Imm d) → (∀ d, x10 = some d → Imm d) → (∀ d, x11 = some d → Imm d) → AllImm [none, none, none, some (nats px), some L.d, some (nats dr), some (.adr sq), x7, x8, x9, x10, x11, none, none] := fun {x7 x8 x9 x10 x11} h7 h8 h9 h10 h11 i d e => by
    match i, e with
    | 0, e => cases e
    | 1, e => cases e
    | 2, e => cases e
    | 3, e => cases e; exact nats_imm px
    | 4, e => cases e; exact L.imm
    | 5, e => cases e; exact nats_imm dr
    | 6, e => cases e; exact .adr sq
    | 7, e => exact h7 d (by simpa using e)
    | 8, e => exact h8 d (by simpa using e)
    | 9, e => exact h9 d (by simpa using e)
    | 10, e => exact h10 d (by simpa using e)
    | 11, e => exact h11 d (by simpa using e)
    | 12, e => cases e
    | 13, e => cases e
    | n + 14, e => simp at e
  -- for place, pane in enumerate(laid)
  refine tseq_ (a2.forG (items := dr.zipIdx.map fun p => D.tup [.int (p.2 : Nat), D.int ((p.1 : Nat) : Int)]) (fun i G C ps => ∃ dq, G dq = some (.dT (kvB (nowAt L ls dr px i))) ∧ R true G (.ref sq) (stsD L ls W) ∧ ps = [none, none, none, some (nats px), some L.d, some (nats dr), some (.adr sq), some (.adr dq), none, none, none, none, none, none]) (fun i G G' C ps ⟨dq, h1, h2, h3⟩ s => ⟨dq, s _ _ h1, h2.same s, h3⟩)
    (IvP.is (iv_enumT (ea_cons (ev_var rfl) ea_nil)) (enum_map _ dr)) ⟨dq0, hdq0, r6', rfl⟩ (fun H3 i dd σ' H' v' C' ps' f1 hdd f2 a5 ⟨dq, hdq, hS, hps⟩ r5 => ?_) fun σ' H' C' ps' f1 a5 ⟨dq, hdq, hS, hps⟩ => ?_)
  · -- a pixel's turn
    subst hps
    obtain ⟨pn, hpn, rfl⟩ := enum_nat hdd
    have hi : i < W := by
      have := (List.getElem?_eq_some_iff.mp hpn).1
      rw [hdl] at this
      exact this
    have hpm : pn < L.rows.length := hT.hd.2 pn (List.mem_of_getElem? hpn)
    have hgd : dr.getD i 0 = pn := by
      rw [List.getD_eq_getElem?_getD, hpn]
      rfl
    refine a5.gd (vs := [8, 9]) (gd_tup (gs_cons gd_name (gs_cons gd_name gs_nil)) rfl) r5 fun σ3 a6' => ?_
    have a6 : At true (noD H) H [] C' [none, none, none, some (nats px), some L.d, some (nats dr), some (.adr sq), some (.adr dq), some (.int (i : Nat)), some (.int ((pn : Nat) : Int)), none, none, none, none] σ3 H' := a6'
    refine tseq_ (a6.evP (d := .lst ((panesAt L dr px i).map fun n => .int (n : Nat))) (ev_if (c := decide (i ∈ px)) (EtP.is (et_test (ev_inT (ns := px.map fun n => ((n : Nat) : Int)) (ev_var rfl) (ev_var ?_))) in_nats) (fun hc => EvP.is (ev_lst (ea_cons (ev_var rfl) ea_nil) (by simp)) ?_) fun hc => EvP.is (ev_listRg (n := L.rows.length) (ev_many (ev_var rfl)) (by omega)) ?_) fun vp H4 e4 a7 rp => ?_)
    · rw [List.map_map]
      rfl
    · unfold panesAt
      rw [if_pos (by simpa using hc), hgd]
      rfl
    · unfold panesAt
      rw [if_neg (by simpa using hc)]
    refine gname_ ?_
    dsimp only
    obtain ⟨pq, xsp, rfl, _, _⟩ := R.lst_ rp
    have hS7 := hS.same (a6.up (.of e4) a7.own)
    have hdq7 := (a6.up (.of e4) a7.own) _ _ hdq
    have a8 : At true (noD H) H [] C' [none, none, none, some (nats px), some L.d, some (nats dr), some (.adr sq), some (.adr dq), some (.int (i : Nat)), some (.int ((pn : Nat) : Int)), some (.adr pq), none, none, none] _ H4 := a7.set 10 (.adr pq)
    refine tseq_ (fun p hp => ?_)
    obtain ⟨a9', hpA, hp0⟩ := a8.own_ (o := .dT []) hp trivial
    have u9 := gx_own (o := .dT []) a8.gsub hp
    have a9 : At true (noD H) H [p] _ [none, none, none, some (nats px), some L.d, some (nats dr), some (.adr sq), some (.adr dq), some (.int (i : Nat)), some (.int ((pn : Nat) : Int)), some (.adr pq), some (.adr p), none, none] _ _ := a9'.set 11 (.adr p)
    refine gname_ ?_
    dsimp only
    have hS9 := hS7.same u9
    have hP9 := rp.same u9
    have hdq9 := u9 _ _ hdq7
    have hdA : dq ∉ [p] := fun m => by rw [gx_out dq m] at hdq9; cases hdq9
    have himx : AllImm [none, none, none, some (nats px), some L.d, some (nats dr), some (.adr sq), some (.adr dq), some (.int (i : Nat)), some (.int ((pn : Nat) : Int)), some (.adr pq), some (.adr p), none, none] := him (fun d e => by cases e; exact .adr _) (fun d e => by cases e; exact .int _) (fun d e => by cases e; exact .int _) (fun d e => by cases e; exact .adr _) (fun d e => by cases e; exact .adr _)
    have hpm1 : p ∈ [p] := by simp
    refine tseq_ (a9.lockFor (d := dq) (kvs := kvB (nowAt L ls dr px i)) (items := (nowAt L ls dr px i).map keyD) (fun k C ps => C p = some (.dT (kvB (((nowAt L ls dr px i).take k).foldl (lateF L dr px i) []))) ∧ ps = [none, none, none, some (nats px), some L.d, some (nats dr), some (.adr sq), some (.adr dq), some (.int (i : Nat)), some (.int ((pn : Nat) : Int)), some (.adr pq), some (.adr p), none, none])
      (gx_newD hdq9) hdA (a9.gsub _ _ hdq9) himx (fun k C ps ⟨_, e⟩ => by subst e; exact himx)
      (fun od Rr G hG hR => ?_) ⟨upd_same, rfl⟩ (fun od E2 H5 k x σ5 H6 y C2 ps2 hE hx hsub f3 b1 ⟨g1, g2⟩ r8 => ?_) fun σ5 H6 C2 ps2 f3 b1 ⟨g1, g2⟩ => ?_)
    · -- the source
      obtain ⟨v7, ev7, rv7⟩ := a9.sl.2 7 _ rfl
      cases rv7.adr_
      refine ⟨.ref dq, ev7, dq, od, rfl, .inr ⟨_, upd_same, hR _ ?_⟩⟩
      have z := walk_keys (b := false) hG (rk_B _)
      unfold dB at z
      rw [List.map_map] at z
      exact z
    · -- a state's turn
      subst g2
      rw [List.getElem?_map] at hx
      obtain ⟨c, hcc, rfl⟩ := Option.map_eq_some_iff.mp hx
      have hcm := (nowAt_ok L ls dr px i).2 c (List.mem_of_getElem? hcc)
      have hcl : c.length = L.rows.length := stAt_len i c hcm
      have hP8 := (hP9.mono (lockR (od := od) hdq9)).same hsub
      refine b1.gd gd_1 r8 fun σ6 b2' => ?_
      have b2 : At false (noD H) H [p] C2 [none, none, none, some (nats px), some L.d, some (nats dr), some (.adr sq), some (.adr dq), some (.int (i : Nat)), some (.int ((pn : Nat) : Int)), some (.adr pq), some (.adr p), some (keyD c), none] σ6 H6 := b2'
      obtain ⟨v10, ev10, rv10⟩ := b2.sl.2 10 _ rfl
      cases rv10.adr_
      have hl1 := lateF_len (L := L) (dr := dr) (px := px) (i := i) (by omega) ((nowAt L ls dr px i).take k) []
      have hnl := nowAt_len (dr := dr) (px := px) hT.h4 (j := i) (by omega)
      have hpl := panesAt_len (L := L) (dr := dr) (px := px) (i := i) (by omega)
      have hl2 : (((nowAt L ls dr px i).take k).foldl (lateF L dr px i) []).length ≤ 1000000 := by
        refine Nat.le_trans hl1 ?_
        rw [List.length_nil, Nat.zero_add, List.length_take]
        exact Nat.le_trans (Nat.mul_le_mul (Nat.le_trans (Nat.min_le_right _ _) hnl) n1) (by decide)
      have hpan : ∀ n ∈ panesAt L dr px i, n < L.rows.length := fun n hn => by
        unfold panesAt at hn
        split at hn
        · rw [List.mem_singleton.mp hn, hgd]; exact hpm
        · exact List.mem_range.mp hn
      refine (b2.recall (j := 10) rfl hP8).update (i := 11) (p := p) (later := ((nowAt L ls dr px i).take k).foldl (lateF L dr px i) []) (keys := (panesAt L dr px i).map (moreZ c)) rfl hpm1 g1 hl2 (by rw [List.length_map]; omega) (ev_lcA (panesAt L dr px i) (fun n => .int (n : Nat)) (fun n => [none, none, none, some (nats px), some L.d, some (nats dr), some (.adr sq), some (.adr dq), some (.int (i : Nat)), some (.int ((pn : Nat) : Int)), some (.lst ((panesAt L dr px i).map fun n => .int (n : Nat))), some (.adr p), some (keyD c), some (.int (n : Nat))]) (fun n => pairD (moreZ c n, .bl true)) ?_ (by omega) (iv_lst (ev_var rfl)) (fun n hn => gd_1) fun n hn => ev_tup (ea_cons (ev_call (F := FMore) (ea_cons (ev_var rfl) (ea_cons (ev_var rfl) ea_nil)) ⟨c, n, rfl, by rw [hcl]; exact hpan n hn, by rw [hcl]; omega, rfl⟩) (ea_cons ev_bl ea_nil)) (by simp)) fun H7 f4 b3 => ?_
      · unfold dB
        rw [List.map_map, List.map_map]
        rfl
      · rw [hE]
        refine ⟨f3.trans f4, _, _, (b3.toAdr ev10).fgt [12] rfl, ?_, rfl⟩
        have ht : (nowAt L ls dr px i).take (k + 1) = (nowAt L ls dr px i).take k ++ [c] := by
          rw [List.take_add_one, hcc]
          rfl
        rw [upd_same, ht, List.foldl_append]
        rfl
    · -- behind the lock
      subst g2
      rw [List.length_map, List.take_length] at g1
      have hl1 := lateF_len (L := L) (dr := dr) (px := px) (i := i) (by omega) (nowAt L ls dr px i) []
      have hnl := nowAt_len (dr := dr) (px := px) hT.h4 (j := i) (by omega)
      have hl2 : ((nowAt L ls dr px i).foldl (lateF L dr px i) []).length ≤ 100000 := by
        refine Nat.le_trans hl1 ?_
        rw [List.length_nil, Nat.zero_add]
        exact Nat.le_trans (Nat.mul_le_mul hnl hn20) (by decide)
      have hnow : nowAt L ls dr px (i + 1) = ((nowAt L ls dr px i).foldl (lateF L dr px i) []).filter fun c => decide (c ∈ stAt L ls (i + 1)) := rfl
      generalize hlt : (nowAt L ls dr px i).foldl (lateF L dr px i) [] = later at g1 hl2 hnow
      obtain ⟨b2, up2, ep2⟩ := b1.rel hpA hp0
      have u2 := (a9.up f3 b1.own).trans up2
      have hS10 := hS9.same u2
      have hpG : Gx [] (noD H) H H6 p = some (.dT (kvB later)) := by rw [ep2]; exact g1
      have b3 := (b2.recall (j := 6) rfl hS10).recall (j := 11) rfl (dctB_to hpG)
      refine b3.evP (ev_dict (ks := dB (nowAt L ls dr px (i + 1))) (ea_cons (ev_lockD (j := 11) (ks := dB later) rfl ?_ (ev_lc later keyD (fun c => [none, none, none, some (nats px), some L.d, some (nats dr), some (stsD L ls W), some (.adr dq), some (.int (i : Nat)), some (.int ((pn : Nat) : Int)), some (.adr pq), some (.lkd (dB later)), some (keyD c), none]) (fun c => decide (c ∈ stAt L ls (i + 1))) (fun c => pairD (c, .bl true)) ?_ hl2 ?_ (fun c hc => gd_1) (fun c hc => et_B (EvP.is (ev_din (d := .dct (dB (stAt L ls (i + 1)))) (ev_var rfl) (ev_ixL (ev_var rfl) (ev_add (ev_var rfl) ev_int) (atI_rng (f := fun w => D.dct (dB (stAt L ls w))) (i := i + 1) (by omega))) rfl) (by rw [valDB]))) fun c hc _ => ev_tup (ea_cons (ev_var rfl) (ea_cons ev_bl ea_nil)) (by simp))) ea_nil)) fun v8 H7 e7 b4 r9 => ?_
      · intro y hy
        obtain ⟨q, hq, rfl⟩ := List.mem_map.mp hy
        obtain ⟨c, _, rfl⟩ := List.mem_map.mp hq
        exact .tup (imm2 (keyD_imm _) (.bl true))
      · rw [hnow]
        unfold dB
        rw [List.map_map]
        rfl
      · refine IvP.is (iv_keys (ks := dB later) (ev_var rfl)) ?_
        unfold dB
        rw [List.map_map]
        rfl
      rw [mergeD_nodup (by rw [dB_keys]; exact (nowAt_ok L ls dr px (i + 1)).1)] at r9
      obtain ⟨nd, rfl, hnd⟩ := dctB_of r9
      have u3 := b2.up (.of e7) b4.own
      have b5 := (b2.same' e7).set 7 (.adr nd)
      have hpH1 : H3 p = none := by
        cases e : H3 p with
        | none => rfl
        | some u =>
          have := e4 _ _ (f2 p u (by simp) e)
          rw [this] at hp; cases hp
      have ftot : SameX [p] H3 H7 := (((sameX_more f2).trans (SameX.of (e4.trans (same_upd hp)))).trans f3).trans (.of e7)
      exact ⟨sameX_drop ftot hpH1, _, _, b5.fgt [8, 9, 10, 11] rfl, nd, hnd, hS10.same u3, rfl⟩
  · -- return now != {}
    subst hps
    have e : dr.zipIdx.length = W := by rw [List.length_zipIdx, hdl]
    rw [List.length_map, e] at hdq
    refine (a5.recall (j := 7) rfl (dctB_to hdq)).evP (ev_neZ (ev_var rfl) rfl ev_dnew) fun v H4 e4 a6 r6 => ?_
    have hz : (D.bl (!decide (dB (nowAt L ls dr px W) = []))) = .bl (canB L ls W dr px) := by
      congr 1
      unfold canB
      congr 1
      cases nowAt L ls dr px W <;> rfl
    rw [hz] at r6
    exact fin _ _ (a6.sameN fun c m => nomatch m) (a6.immV r6 (.bl _))
end
end SP
set_option Elab.async false
set_option linter.all false
set_option maxRecDepth 100000
/-! Stillpanes, plain law 1: what the costs tell. -/
namespace SP
open PySem L2
theorem lookZ_put (ks : Cost) (k j : List Int) (v : Int) : lookZ (putZ ks k v) j = if j = k then some v else lookZ ks j := by
  have h := valZ (putZ ks k v) j
  rw [kvZ_put, valV_put, valZ] at h
  by_cases e : j = k
  · rw [if_pos (by rw [e]), e] at h
    rw [if_pos e, e]
    cases hl : lookZ (putZ ks k v) k with
    | none => rw [hl] at h; cases h
    | some u => rw [hl] at h; cases h; rfl
  · rw [if_neg (fun z => e (inl_inj.mp z))] at h
    rw [if_neg e]
    cases hl : lookZ (putZ ks k v) j with
    | none =>
      rw [hl] at h
      cases hm : lookZ ks j with
      | none => rfl
      | some u => rw [hm] at h; cases h
    | some u =>
      rw [hl] at h
      cases hm : lookZ ks j with
      | none => rw [hm] at h; cases h
      | some u2 => rw [hm] at h; cases h; rfl
/-- a candidate is tried -/
def addP (up : List (List Int)) (later : Cost) (kv : List Int × Int) : Cost := if (decide (kv.1 ∈ up) && (!(lookZ later kv.1).isSome || ltZ later kv.1 kv.2)) = true then putZ later kv.1 kv.2 else later
def candC (p : Nat) (cc : List Int × Int) : List (List Int × Int) := (List.range cc.1.length).map fun own => (moreZ cc.1 own, costZ cc.2 own p)
theorem turnC_cand (up : List (List Int)) (p : Nat) (later : Cost) (cc : List Int × Int) : turnC up p later cc = (candC p cc).foldl (addP up) later := by
  unfold candC turnC
  rw [List.foldl_map]
  rfl
theorem turns_cand (up : List (List Int)) (p : Nat) : ∀ (cs later : Cost), cs.foldl (turnC up p) later = (cs.flatMap (candC p)).foldl (addP up) later
  | [], later => rfl
  | c :: cs, later => by
    rw [List.foldl_cons, turnC_cand, turns_cand up p cs, List.flatMap_cons, List.foldl_append]
variable {up : List (List Int)} {later : Cost} {k : List Int}
theorem addP_from {kv : List Int × Int} {v : Int} (h : lookZ (addP up later kv) k = some v) : lookZ later k = some v ∨ (k = kv.1 ∧ v = kv.2 ∧ k ∈ up) := by
  unfold addP at h
  split at h
  · rename_i hb
    rw [lookZ_put] at h
    split at h
    · rename_i e
      rw [Bool.and_eq_true] at hb
      exact .inr ⟨e, by cases h; rfl, by rw [e]; simpa using hb.1⟩
    · exact .inl h
  · exact .inl h
theorem addP_old {kv : List Int × Int} {u : Int} (h : lookZ later k = some u) : ∃ v, lookZ (addP up later kv) k = some v ∧ v ≤ u := by
  unfold addP
  split
  · rename_i hb
    rw [lookZ_put]
    split
    · rename_i e
      rw [Bool.and_eq_true] at hb
      rw [← e, h] at hb
      have : ltZ later k kv.2 = decide (kv.2 < u) := by unfold ltZ; rw [h]
      rw [this] at hb
      have hlt : kv.2 < u := by simpa using hb.2
      exact ⟨_, rfl, by omega⟩
    · exact ⟨u, h, Int.le_refl _⟩
  · exact ⟨u, h, Int.le_refl _⟩
theorem addP_new {kv : List Int × Int} (h : kv.1 ∈ up) : ∃ v, lookZ (addP up later kv) kv.1 = some v ∧ v ≤ kv.2 := by
  unfold addP
  split
  · rw [lookZ_put, if_pos rfl]
    exact ⟨_, rfl, Int.le_refl _⟩
  · rename_i hb
    rw [decide_eq_true h, Bool.true_and] at hb
    cases hl : lookZ later kv.1 with
    | none => rw [hl] at hb; exact absurd rfl hb
    | some u =>
      refine ⟨u, rfl, ?_⟩
      have : ltZ later kv.1 kv.2 = decide (kv.2 < u) := by unfold ltZ; rw [hl]
      rw [hl, this] at hb
      have : ¬ kv.2 < u := by simpa using hb
      omega
theorem fold_from : ∀ (cs : List (List Int × Int)) {later : Cost} {v : Int}, lookZ (cs.foldl (addP up) later) k = some v → lookZ later k = some v ∨ ((k, v) ∈ cs ∧ k ∈ up)
  | [], _, _, h => .inl h
  | c :: cs, later, v, h => by
    rcases fold_from cs h with h | ⟨h1, h2⟩
    · rcases addP_from h with h | ⟨h1, h2, h3⟩
      · exact .inl h
      · exact .inr ⟨by rw [h1, h2]; exact List.mem_cons_self .., h3⟩
    · exact .inr ⟨List.mem_cons_of_mem _ h1, h2⟩
theorem fold_old : ∀ (cs : List (List Int × Int)) {later : Cost} {u : Int}, lookZ later k = some u → ∃ v, lookZ (cs.foldl (addP up) later) k = some v ∧ v ≤ u
  | [], _, u, h => ⟨u, h, Int.le_refl _⟩
  | c :: cs, later, u, h => by
    obtain ⟨v, h1, h2⟩ := addP_old (up := up) (kv := c) h
    obtain ⟨x, h3, h4⟩ := fold_old cs h1
    exact ⟨x, h3, Int.le_trans h4 h2⟩
theorem fold_new : ∀ (cs : List (List Int × Int)) {later : Cost} {u : Int}, (k, u) ∈ cs → k ∈ up → ∃ v, lookZ (cs.foldl (addP up) later) k = some v ∧ v ≤ u
  | c :: cs, later, u, h, hk => by
    rcases List.mem_cons.mp h with h | h
    · subst h
      obtain ⟨v, h1, h2⟩ := addP_new (up := up) (later := later) (kv := (k, u)) hk
      obtain ⟨x, h3, h4⟩ := fold_old cs h1
      exact ⟨x, h3, Int.le_trans h4 h2⟩
    · exact fold_new cs h hk
variable {L : Lay} {ls : List (List Nat × Int)} {d : List Nat} {w : Nat}
theorem cost_succ : costAt L ls d (w + 1) = ((costAt L ls d w).flatMap (candC (d.getD w 0))).foldl (addP (stAt L ls (w + 1))) [] := turns_cand ..
/-- whence a cost comes -/
theorem cost_from {v : Int} (h : lookZ (costAt L ls d (w + 1)) k = some v) : ∃ c u own, lookZ (costAt L ls d w) c = some u ∧ own < c.length ∧ k = moreZ c own ∧ v = costZ u own (d.getD w 0) ∧ k ∈ stAt L ls (w + 1) := by
  rw [cost_succ] at h
  rcases fold_from _ h with h | ⟨h, hk⟩
  · cases h
  · obtain ⟨cc, hc, h⟩ := List.mem_flatMap.mp h
    obtain ⟨own, ho, e⟩ := List.mem_map.mp h
    have e1 : moreZ cc.1 own = k := congrArg (·.1) e
    have e2 : costZ cc.2 own (d.getD w 0) = v := congrArg (·.2) e
    exact ⟨cc.1, cc.2, own, costs_look hc, List.mem_range.mp ho, e1.symm, e2.symm, hk⟩
/-- where a cost leads -/
theorem cost_to {c : List Int} {u : Int} {own : Nat} (h : lookZ (costAt L ls d w) c = some u) (ho : own < c.length) (hk : moreZ c own ∈ stAt L ls (w + 1)) : ∃ v, lookZ (costAt L ls d (w + 1)) (moreZ c own) = some v ∧ v ≤ costZ u own (d.getD w 0) := by
  rw [cost_succ]
  exact fold_new _ (List.mem_flatMap.mpr ⟨(c, u), lookZ_some h, List.mem_map.mpr ⟨own, List.mem_range.mpr ho, rfl⟩⟩) hk
theorem set_set_get {c : List Int} {p : Nat} {x : Int} : (c.set p x).set p (c.getD p 0) = c := by
  by_cases h : p < c.length
  · rw [List.set_set, List.getD_eq_getElem?_getD, List.getElem?_eq_getElem h]
    show c.set p c[p] = c
    exact List.set_getElem_self h
  · rw [List.set_eq_of_length_le (by rw [List.length_set]; omega), List.set_eq_of_length_le (by omega)]
theorem getD_set {c : List Int} {p : Nat} {x : Int} (h : p < c.length) : (c.set p x).getD p 0 = x := by
  rw [List.getD_eq_getElem?_getD, List.getElem?_set_self h]
  rfl
theorem less_more {c : List Int} {p : Nat} : lessZ (moreZ c p) p = c := by
  unfold lessZ moreZ
  by_cases h : p < c.length
  · rw [getD_set h, Int.add_sub_cancel]
    exact set_set_get
  · rw [List.set_eq_of_length_le (by rw [List.length_set]; omega), List.set_eq_of_length_le (by omega)]
theorem more_less {c : List Int} {p : Nat} : moreZ (lessZ c p) p = c := by
  unfold lessZ moreZ
  by_cases h : p < c.length
  · rw [getD_set h, Int.sub_add_cancel]
    exact set_set_get
  · rw [List.set_eq_of_length_le (by rw [List.length_set]; omega), List.set_eq_of_length_le (by omega)]
/-- a step back is found and tells the truth -/
theorem step_ok {m : Int} (h : lookZ (costAt L ls d (w + 1)) k = some m) : ∃ own, backO (costAt L ls d w) k m (d.getD w 0) = some own ∧ own < k.length ∧ ∃ u, lookZ (costAt L ls d w) (lessZ k own) = some u ∧ m = costZ u own (d.getD w 0) := by
  obtain ⟨c, u, own, h1, h2, rfl, rfl, _⟩ := cost_from h
  have hb : backB (costAt L ls d w) (moreZ c own) (costZ u own (d.getD w 0)) (d.getD w 0) own = true := by
    unfold backB costZ
    rw [less_more, h1]
    simp
  cases hf : backO (costAt L ls d w) (moreZ c own) (costZ u own (d.getD w 0)) (d.getD w 0) with
  | none =>
    have := (List.find?_eq_none.mp hf) own (List.mem_range.mpr (by rw [moreZ_len]; exact h2))
    exact absurd hb this
  | some o =>
    have h3 := List.find?_some hf
    have h4 := List.mem_range.mp (List.mem_of_find?_eq_some hf)
    unfold backB at h3
    have h3 := of_decide_eq_true h3
    exact ⟨o, rfl, h4, _, h3, by unfold costZ; omega⟩
/-! ### the least of pairs -/
theorem argBest_num {bt : Nat → Nat → Bool} {num : Nat → Int} {n : Nat} (h1 : ∀ i j, i ≤ n → j ≤ n → bt i j = true → num i ≤ num j) (h2 : ∀ i j, i ≤ n → j ≤ n → bt i j = false → num j ≤ num i) : ∀ k, k ≤ n → argBest bt k ≤ k ∧ ∀ j, j ≤ k → num (argBest bt k) ≤ num j
  | 0, _ => ⟨Nat.le_refl _, fun j hj => by
    have : j = 0 := by omega
    subst this
    exact Int.le_refl _⟩
  | k + 1, hk => by
    obtain ⟨a1, a2⟩ := argBest_num h1 h2 k (by omega)
    simp only [argBest]
    cases hc : bt (k + 1) (argBest bt k) with
    | true =>
      rw [if_pos rfl]
      refine ⟨Nat.le_refl _, fun j hj => ?_⟩
      have hz := h1 _ _ hk (by omega) hc
      by_cases e : j = k + 1
      · rw [e]; exact Int.le_refl _
      · exact Int.le_trans hz (a2 j (by omega))
    | false =>
      rw [if_neg (by decide)]
      refine ⟨by omega, fun j hj => ?_⟩
      have hz := h2 _ _ hk (by omega) hc
      by_cases e : j = k + 1
      · rw [e]; exact hz
      · exact a2 j (by omega)
def itemD (p : List Int × Int) : D := .tup [.int p.2, keyD p.1]
theorem item_toks (p : List Int × Int) : ∃ l, PySem.W.keyToks (itemD p).py = .inl 1 :: .inl p.2 :: l := by
  unfold itemD
  rw [D.py, D.pys, PySem.W.keyToks, PySem.W.keyToksAll, D.py, PySem.W.keyToks]
  exact ⟨_, rfl⟩
theorem item_lt (p q : List Int × Int) : (PySem.W.dataLt (itemD p).py (itemD q).py = true → p.2 ≤ q.2) ∧ (PySem.W.dataLt (itemD p).py (itemD q).py = false → q.2 ≤ p.2) := by
  obtain ⟨l, e1⟩ := item_toks p
  obtain ⟨m, e2⟩ := item_toks q
  by_cases h : p.2 = q.2
  · rw [h]
    exact ⟨fun _ => Int.le_refl _, fun _ => Int.le_refl _⟩
  · have e : PySem.W.dataLt (itemD p).py (itemD q).py = decide (p.2 < q.2) := by
      unfold PySem.W.dataLt
      rw [e1, e2, PyProof.Rows.lex_self (O := PyProof.Rows.itemOrd), PyProof.Rows.lex_diff (O := PyProof.Rows.itemOrd) (fun z => h (Sum.inl.inj z))]
      rfl
    rw [e]
    exact ⟨fun z => by have := of_decide_eq_true z; omega, fun z => by have := of_decide_eq_false z; omega⟩
theorem alike_ints : ∀ (c d : List Int), PySem.W.alikeAll (D.pys (c.map .int)) (D.pys (d.map .int)) = true
  | [], _ => by rw [List.map_nil, D.pys, PySem.W.alikeAll]
  | x :: c, [] => by rw [List.map_nil, List.map_cons, D.pys, D.pys, PySem.W.alikeAll]
  | x :: c, y :: d => by
    rw [List.map_cons, List.map_cons, D.pys, D.pys, PySem.W.alikeAll, alike_ints c d, D.py, D.py, PySem.W.alike]
    rfl
theorem items_alike (cs : Cost) : PySem.W.AlikeAll (D.pys (cs.map itemD)) := by
  have key : ∀ x ∈ D.pys (cs.map itemD), ∃ p, x = (itemD p).py := fun x hx => by
    rw [pys_map, List.map_map] at hx
    obtain ⟨p, _, rfl⟩ := List.mem_map.mp hx
    exact ⟨p, rfl⟩
  refine ⟨fun x hx y hy => ?_, fun x hx => ?_⟩
  · obtain ⟨p, rfl⟩ := key x hx
    obtain ⟨q, rfl⟩ := key y hy
    have e := alike_ints p.1 q.1
    simp only [itemD, keyD, D.py, D.pys, PySem.W.alike, PySem.W.alikeAll, e, Bool.and_self, Bool.true_and, Bool.and_true]
  · obtain ⟨p, rfl⟩ := key x hx
    simp [itemD, D.py]
def bestC (cs : Cost) : List Int := match cs[bestD (D.pys (cs.map itemD))]? with
  | some p => p.1
  | none => []
theorem best_spec {cs : Cost} (h : cs ≠ []) : ∃ p, cs[bestD (D.pys (cs.map itemD))]? = some p ∧ bestC cs = p.1 ∧ ∀ q ∈ cs, p.2 ≤ q.2 := by
  have hl : (D.pys (cs.map itemD)).length = cs.length := by rw [pys_map, List.length_map, List.length_map]
  have h0 : 0 < cs.length := List.length_pos_iff.mpr h
  have hg : ∀ i, i < cs.length → ∃ p, cs[i]? = some p ∧ (D.pys (cs.map itemD)).getD i .none = (itemD p).py := fun i hi => by
    refine ⟨cs[i], List.getElem?_eq_getElem hi, ?_⟩
    rw [pys_map, List.map_map, List.getD_eq_getElem?_getD, List.getElem?_map, List.getElem?_eq_getElem hi]
    rfl
  have hn : ∀ i p, cs[i]? = some p → (cs.map (·.2)).getD i 0 = p.2 := fun i p e => by
    rw [List.getD_eq_getElem?_getD, List.getElem?_map, e]
    rfl
  obtain ⟨b1, b2⟩ := argBest_num (bt := fun i j => PySem.W.dataLt ((D.pys (cs.map itemD)).getD i .none) ((D.pys (cs.map itemD)).getD j .none)) (num := fun i => (cs.map (·.2)).getD i 0) (n := cs.length - 1)
    (fun i j hi hj hb => by
      obtain ⟨p, hp, ep⟩ := hg i (by omega)
      obtain ⟨q, hq, eq⟩ := hg j (by omega)
      rw [ep, eq] at hb
      show (cs.map (·.2)).getD i 0 ≤ (cs.map (·.2)).getD j 0
      rw [hn i p hp, hn j q hq]
      exact (item_lt p q).1 hb)
    (fun i j hi hj hb => by
      obtain ⟨p, hp, ep⟩ := hg i (by omega)
      obtain ⟨q, hq, eq⟩ := hg j (by omega)
      rw [ep, eq] at hb
      show (cs.map (·.2)).getD j 0 ≤ (cs.map (·.2)).getD i 0
      rw [hn i p hp, hn j q hq]
      exact (item_lt p q).2 hb) (cs.length - 1) (Nat.le_refl _)
  have hbd : bestD (D.pys (cs.map itemD)) < cs.length := by
    unfold bestD
    rw [hl]
    omega
  obtain ⟨p, hp, _⟩ := hg _ hbd
  refine ⟨p, hp, by unfold bestC; rw [hp], fun q hq => ?_⟩
  obtain ⟨j, hj, e⟩ := List.getElem_of_mem hq
  have hq' : cs[j]? = some q := by rw [List.getElem?_eq_getElem hj, e]
  have z := b2 j (by omega)
  have e2 : bestD (D.pys (cs.map itemD)) = argBest (fun i j => PySem.W.dataLt ((D.pys (cs.map itemD)).getD i .none) ((D.pys (cs.map itemD)).getD j .none)) (cs.length - 1) := by
    unfold bestD
    rw [hl]
  rw [← e2] at z
  rw [hn j q hq', hn _ p hp] at z
  exact z
/-! ### the way back -/
def paneK (L : Lay) (ls : List (List Nat × Int)) (d : List Nat) (W k : Nat) (now : List Int) : Nat := (backO (costAt L ls d (W - 1 - k)) now ((lookZ (costAt L ls d (W - k)) now).getD 0) (d.getD (W - 1 - k) 0)).getD 0
def nowK (L : Lay) (ls : List (List Nat × Int)) (d : List Nat) (W : Nat) : Nat → List Int
  | 0 => bestC (costAt L ls d W)
  | k + 1 => lessZ (nowK L ls d W k) (paneK L ls d W k (nowK L ls d W k))
def wayK (L : Lay) (ls : List (List Nat × Int)) (d : List Nat) (W k : Nat) : List Nat := (List.range k).map fun j => paneK L ls d W j (nowK L ls d W j)
def leastO (L : Lay) (ls : List (List Nat × Int)) (d : List Nat) (W : Nat) : Option (List Nat) := if costAt L ls d W = [] then none else some (wayK L ls d W W).reverse
theorem look_of_mem {p : List Int × Int} (h : p ∈ costAt L ls d w) : lookZ (costAt L ls d w) p.1 = some p.2 := costs_look h
theorem nowK_ok {W : Nat} (h : costAt L ls d W ≠ []) : ∀ k, k ≤ W → ∃ m, lookZ (costAt L ls d (W - k)) (nowK L ls d W k) = some m
  | 0, _ => by
    obtain ⟨p, h1, h2, _⟩ := best_spec h
    exact ⟨p.2, by show lookZ (costAt L ls d W) (bestC _) = _; rw [h2]; exact costs_look (List.mem_of_getElem? h1)⟩
  | k + 1, hk => by
    obtain ⟨m, hm⟩ := nowK_ok h k (by omega)
    have e : W - k = (W - 1 - k) + 1 := by omega
    have hm' := hm
    rw [e] at hm
    obtain ⟨own, h1, _, u, h2, _⟩ := step_ok hm
    refine ⟨u, ?_⟩
    have e2 : paneK L ls d W k (nowK L ls d W k) = own := by
      unfold paneK
      rw [hm']
      show (backO _ _ m _).getD 0 = own
      rw [h1]
      rfl
    show lookZ (costAt L ls d (W - (k + 1))) (lessZ (nowK L ls d W k) (paneK L ls d W k (nowK L ls d W k))) = some u
    rw [e2]
    have e3 : W - (k + 1) = W - 1 - k := by omega
    rw [e3]
    exact h2
theorem nowK_step {W k : Nat} (h : costAt L ls d W ≠ []) (hk : k < W) : ∃ m, lookZ (costAt L ls d (W - k)) (nowK L ls d W k) = some m ∧ backO (costAt L ls d (W - 1 - k)) (nowK L ls d W k) m (d.getD (W - 1 - k) 0) = some (paneK L ls d W k (nowK L ls d W k)) ∧ paneK L ls d W k (nowK L ls d W k) < (nowK L ls d W k).length := by
  obtain ⟨m, hm⟩ := nowK_ok h k (by omega)
  have e : W - k = (W - 1 - k) + 1 := by omega
  have hm' := hm
  rw [e] at hm
  obtain ⟨own, h1, h3, u, h2, _⟩ := step_ok hm
  have e2 : paneK L ls d W k (nowK L ls d W k) = own := by
    unfold paneK
    rw [hm']
    show (backO _ _ m _).getD 0 = own
    rw [h1]
    rfl
  rw [e2]
  exact ⟨m, hm', h1, h3⟩
end SP
set_option Elab.async false
set_option linter.all false
set_option maxRecDepth 100000
set_option maxHeartbeats 1000000
/-! Stillpanes: least_moved. -/
namespace SP
open PySem L2 PySem.Spec PyProof.Rows
section
variable {P : Program} {w : World} {K : PySem.W.Frag} {mg : Str → Option Value} {base : Heap}
abbrev cosD (L : Lay) (ls : List (List Nat × Int)) (dr : List Nat) (W : Nat) : D := .lst ((List.range (W + 1)).map fun w => .dct (dZ (costAt L ls dr w)))
def FLeast (ds : List D) (o : Option D) : Prop := ∃ (L : Lay) (W : Nat) (dr : List Nat) (ls : List (List Nat × Int)) (x y z : D), ds = [x, y, z] ∧ Told L W dr ls x y z ∧ o = (leastO L ls dr W).map nats
theorem sh_item (p : List Int × Int) : Sh 2 (itemD p) := .tup fun d hd => by
  rcases List.mem_cons.mp hd with rfl | hd
  · exact .int _
  · rw [List.mem_singleton.mp hd]
    exact sh_key (n := 0) _
theorem sh_items (cs : Cost) : ∀ d ∈ cs.map itemD, Sh 2 d := fun d hd => by
  obtain ⟨p, _, rfl⟩ := List.mem_map.mp hd
  exact sh_item p
theorem seqs_items (cs : Cost) : D.seqs (cs.map itemD) = true := (Sh.all fun d hd => (sh_items cs d hd).ok).1
theorem depth_items (cs : Cost) : PyData.depthAll (D.pys (cs.map itemD)) ≤ 20 := Nat.le_trans (Sh.all fun d hd => (sh_items cs d hd).ok).2.1 (by decide)
theorem sc_least_moved : FnScope ["layout", "drawing", "limits", "own", "rows", "found", "now", "place", "pane", "counts", "cost"] ["layout", "drawing", "limits"] (defScope (top 19)) := ⟨rfl, rfl, rfl, by decide +kernel, rfl, by decide +kernel, by decide +kernel⟩
theorem ok_least_moved (T : Txt mg) {C : Addr} (XC : XCan K mg C) (h_tuple_of : Has P w K mg base "tuple_of" ["thing"] 4 (SpR (FTup 3))) (h_cheapest : Has P w K mg base "cheapest" ["layout", "drawing", "limits"] 3 (SpR FCheap)) (h_step_back : Has P w K mg base "step_back" ["ahead", "counts", "cost", "pane"] 2 (SpR FBack)) (h_less_one : Has P w K mg base "less_one" ["counts", "pane"] 1 (SpR FLess)) {f : Addr} {fd : FuncData} (Fn : Fun K "least_moved" "least_moved" (top 19) f fd) : FnOk P w K mg base (L2.CX P w) 5 f fd ["layout", "drawing", "limits"] (SpE C FLeast) := by
  refine ok_lowE (k := 4) Fn sc_least_moved (fun ds o ⟨L, W, dr, ls, x, y, z, e, hT, _⟩ => by
    subst e
    exact ⟨rfl, nst3 hT.nx hT.ny hT.nz⟩) fun cdv A outer s H E ds o hr ⟨L, W, dr, ls, x, y, z, e, hT, eo⟩ => ?_
  subst e eo
  have hr_tuple_of := hr
  have hr_cheapest := hr.mono (by decide : 3 ≤ 4)
  have hr_step_back := hr.mono (by decide : 2 ≤ 4)
  have hr_less_one := hr.mono (by decide : 1 ≤ 4)
  have hu0 := un_of (n := 0) hr
  have hu1 := un_of (n := 1) hr
  have hu64 := un_of (n := 64) hr
  have n1 := hT.hL.n1
  have w1 := hT.hL.w1
  have hdl := hT.hd.1
  refine ⟨_, (pss_cons (ps_set (i := 3) sc_least_moved.nd rfl (Or.inl rfl) (pe_has h_tuple_of hr_tuple_of (by rfl) (pa_cons (pv 1) pa_nil) pass0))
      (pss_cons (ps_par (i := 4) (j := 5) rfl sc_least_moved.nd rfl rfl (by decide) rfl rfl (pa_cons (pe_has h_cheapest hr_cheapest (by rfl) (pa_cons (pe_has h_tuple_of hr_tuple_of (by rfl) (pa_cons (pv 0) pa_nil) pass0) (pa_cons (pv 3) (pa_cons (pe_has h_tuple_of hr_tuple_of (by rfl) (pa_cons (pv 2) pa_nil) pass0) pa_nil))) pass0) (pa_cons (pe_lst pa_nil) pa_nil)) rfl)
      (pss_cons (ps_if (pt_cmpR (op_eqZ hu0) (pe_ix (ixL_ K) (pv 4) (pe_un un_neg pe_int) (fun _ _ => rfl)) pe_dnewT (nomark _))
      (pss_one (ps_raise rfl (takes_of rfl rfl rfl rfl) (pmk_own0 PySem.F.excBase_ValueError XC.q XC.g XC.k (raises_own XC.sub XC.typ) (by rfl))))
      pss_nil)
      (pss_cons (ps_set (i := 6) sc_least_moved.nd rfl (Or.inl rfl) (pe_ix (ixT_ K) (pe_callB (minD_ K rfl hu64) (by rfl) T.min_ bt_min (pa_cons (pe_lock (pe_lc (own := [("counts", 9), ("cost", 10)]) rfl sc_least_moved.nd (pi_itemsT (pe_ix (ixL_ K) (pv 4) (pe_un un_neg pe_int) (fun _ _ => rfl))) (blkOk_by (by rfl)) (fun _ _ _ _ _ => (gT_ K (n := 2) rfl (pgs_cons (pg_name (i := 9) sc_least_moved.nd rfl (Or.inl rfl)) (pgs_cons (pg_name (i := 10) sc_least_moved.nd rfl (Or.inl rfl)) pgs_nil)))) (fun _ _ _ _ _ => pts_nil) (fun _ _ _ _ _ => (pe_tup (pa_cons (pv 10) (pa_cons (pv 9) pa_nil)))))) pa_nil)) pe_int (fun _ _ => rfl)))
      (pss_cons (ps_for (passes_of rfl) rfl (pi_range3 (by rfl) T.range_ (pa_cons (pe_op op_sub (pe_callB (len_ K) (by rfl) T.len_ bt_len (pa_cons (pv 3) pa_nil)) pe_int) (pa_cons (pe_un un_neg pe_int) (pa_cons (pe_un un_neg pe_int) pa_nil)))) (pg_name (i := 7) sc_least_moved.nd rfl (Or.inl rfl))
      (pss_cons (ps_set (i := 8) sc_least_moved.nd rfl (Or.inl rfl) (pe_has h_step_back hr_step_back (by rfl) (pa_cons (pe_ix (ixL_ K) (pv 4) (pv 7) (fun _ _ => rfl)) (pa_cons (pv 6) (pa_cons (pe_dget hu1 (pe_ix (ixL_ K) (pv 4) (pe_op op_add (pv 7) pe_int) (fun _ _ => rfl)) (pv 6) (fun _ _ => rfl)) (pa_cons (pe_ix (ixT_ K) (pv 3) (pv 7) (fun _ _ => rfl)) pa_nil)))) pass0))
      (pss_cons (ps_expr (pe_bm PySem.F.plainAttrs_list PySem.F.slot_list_append PySem.F.type_list_append mt_append (pv 5) (pa_cons (pv 8) pa_nil)))
      (pss_one (ps_set (i := 6) sc_least_moved.nd rfl (Or.inl rfl) (pe_has h_less_one hr_less_one (by rfl) (pa_cons (pv 6) (pa_cons (pv 8) pa_nil)) pass0))))))
      (pss_one (ps_ret (pe_callTy (tup_ K) (by rfl) T.tuple_ bt_tuple (pa_cons (revL_ K (pv 5)) pa_nil))))))))), fun σ Dn a0 fin finE => ?_⟩
  refine tseq_ (a0.sd (W := fun _ _ => False) (sd_set (ev_told (ev_var rfl) hT.ny hT.ey)) fun σ1 H1 e1 a1 => ?_)
  dsimp only
  have a1 : At true (noD H) H [] (fun _ => none) [some x, some y, some z, some (nats dr), none, none, none, none, none, none, none] σ1 H1 := a1
  refine tseq_ (a1.parL (ev_call (F := FCheap) (ea_cons (ev_told (ev_var rfl) hT.nx hT.ex) (ea_cons (ev_var rfl) (ea_cons (ev_told (ev_var rfl) hT.nz hT.ez) ea_nil))) ⟨L, W, dr, ls, rfl, hT.hL, hT.hl, hT.hd, hT.h4, rfl⟩) fun v q H2 e2 hqA hq0 a2' r2 => ?_)
  dsimp only
  have r2' := r2
  obtain ⟨sq, xs0, rfl, _, _⟩ := R.lst_ r2
  have a2 : At true (noD H) H [q] _ [none, none, none, some (nats dr), some (.adr sq), some (.adr q), none, none, none, none, none] _ H2 := ((a2'.set 4 (.adr sq)).set 5 (.adr q)).fgt [0, 1, 2] rfl
  have hfit : ∀ {α : Type} {g : Nat → α}, atI ((List.range (W + 1)).map g) (-1) = some (g W) := fun {α g} => atI_end
  -- if rows[-1] == {}
  refine tseq_ ((a2.recall (j := 4) rfl r2').etP (c := decide (dZ (costAt L ls dr W) = [])) (et_test (ev_eqZ (d := .dct (dZ (costAt L ls dr W))) (ev_ixL (ev_var rfl) (ev_neg ev_int) hfit) rfl ev_dnew)) fun H3 e3 a3' => ?_)
  have a3 := a2.same' e3
  have r3 := r2'.same (a2.up (.of e3) a3.own)
  by_cases hz : costAt L ls dr W = []
  · rw [decide_eq_true (dZ_nil.mpr hz), if_pos rfl]
    have e : leastO L ls dr W = none := if_pos hz
    rw [e] at finE
    exact finE rfl _ (a3.sameN fun c m => by rw [List.mem_singleton.mp m]; exact hq0)
  · rw [decide_eq_false (fun z => hz (dZ_nil.mp z)), if_neg (by decide)]
    have e : leastO L ls dr W = some (wayK L ls dr W W).reverse := if_neg hz
    rw [e] at fin
    have hset : ((List.range (W + 1)).map fun w => D.dct (dZ (costAt L ls dr w))).set W (.lkd (dZ (costAt L ls dr W))) = ((List.range W).map fun w => D.dct (dZ (costAt L ls dr w))) ++ [.lkd (dZ (costAt L ls dr W))] := by
      rw [List.range_succ, List.map_append, List.set_append_right _ _ (by simp)]
      simp
    obtain ⟨bp, hb1, hb2, _⟩ := best_spec hz
    refine tseq_ ((a3.recall (j := 4) rfl r3).evP (d := keyD (bestC (costAt L ls dr W))) (ev_ixT (ev_minD (d := itemD bp) (ea_cons (ev_lockI (j := 4) (i := W) (ks := dZ (costAt L ls dr W)) (ys := (costAt L ls dr W).map itemD) rfl ?_ ?_ (ev_lcA (costAt L ls dr W) (fun p => .tup [keyD p.1, .int p.2]) (fun p => [none, none, none, some (nats dr), some (.lst (((List.range (W + 1)).map fun w => D.dct (dZ (costAt L ls dr w))).set W (.lkd (dZ (costAt L ls dr W))))), some (.adr q), none, none, none, some (keyD p.1), some (.int p.2)]) itemD rfl ?_ ?_ (fun p hp => gd_tup (gs_cons (gd_name (by decide)) (gs_cons (gd_name (by decide)) gs_nil)) rfl) fun p hp => ev_tup (ea_cons (ev_var rfl) (ea_cons (ev_var rfl) ea_nil)) (by simp))) ea_nil) (seqs_items _) (items_alike _) ?_ (depth_items _) ?_) ev_int ?_) fun v4 H4 e4 a4' r4 => ?_)
    · rw [List.getElem?_map, List.getElem?_range (by omega)]
      rfl
    · intro y hy
      obtain ⟨p, _, rfl⟩ := List.mem_map.mp hy
      exact .tup (imm2 (.int _) (keyD_imm _))
    · have := cost_len (dr := dr) hT.h4 (j := W) (Nat.le_refl _)
      omega
    · refine IvP.is (iv_items (ks := dZ (costAt L ls dr W)) (ev_ixL (ev_var rfl) (ev_neg ev_int) ?_)) ?_
      · rw [hset]
        exact atI_last _ _
      · unfold dZ
        rw [List.map_map]
        rfl
    · intro z
      exact hz (List.map_eq_nil_iff.mp z)
    · rw [List.getElem?_map, hb1]
      rfl
    · rw [hb2]
      rfl
    refine gname_ ?_
    dsimp only
    have a4 : At true (noD H) H [q] _ [none, none, none, some (nats dr), some (.adr sq), some (.adr q), some (keyD (nowK L ls dr W 0)), none, none, none, none] _ H4 := (a3.same' e4).set 6 r4
    have r5 := r3.same (a3.up (.of e4) a4.own)
    refine tseq_ (a4.forG (items := (List.range W).map fun k => .int (((W : Int) - 1) + (k : Nat) * (-1))) (fun k G C ps => C q = some (.lst ((wayK L ls dr W k).map fun n => V.int (n : Nat))) ∧ R true G (.ref sq) (cosD L ls dr W) ∧ ps = [none, none, none, some (nats dr), some (.adr sq), some (.adr q), some (keyD (nowK L ls dr W k)), none, none, none, none]) (fun i G G' C ps ⟨h1, h2, h3⟩ s => ⟨h1, h2.same s, h3⟩)
      (iv_rng3 (n := W) (j := -1) (ea_cons (EvP.is (ev_sub (ev_lenT (ea_cons (ev_var rfl) ea_nil)) ev_int) ?_) (ea_cons (ev_neg ev_int) (ea_cons (ev_neg ev_int) ea_nil))) ?_) ⟨upd_same, r5, rfl⟩ (fun H5 k dd σ' H' v' C' ps' f1 hdd f2 a5 ⟨hc, hS, hps⟩ r6 => ?_) fun σ' H' C' ps' f1 a5 ⟨hc, hS, hps⟩ => ?_)
    · rw [List.length_map, hdl]
    · omega
    · -- a turn back
      subst hps
      obtain ⟨hk, hdd'⟩ : k < W ∧ dd = .int ((W : Int) - 1 + (k : Nat) * (-1)) := by
        have hk : k < W := by
          have := (List.getElem?_eq_some_iff.mp hdd).1
          simpa using this
        rw [List.getElem?_map, List.getElem?_range hk] at hdd
        exact ⟨hk, (Option.some.inj hdd).symm⟩
      obtain ⟨pl, hpl⟩ : ∃ pl : Nat, pl = W - 1 - k := ⟨_, rfl⟩
      have hdd2 : dd = .int ((pl : Nat) : Int) := by
        rw [hdd']
        congr 1
        omega
      subst hdd2
      obtain ⟨m, hm1, hm2, hm3⟩ := nowK_step hz hk
      have ewk : W - k = pl + 1 := by omega
      rw [ewk] at hm1
      rw [← hpl] at hm2
      have hlen : (nowK L ls dr W k).length = L.rows.length := stAt_len (pl + 1) _ ((costAt_ok L ls dr (pl + 1)).2 _ (List.mem_map.mpr ⟨_, lookZ_some hm1, rfl⟩))
      have hdp : dr[pl]? = some (dr.getD pl 0) := by
        rw [List.getD_eq_getElem?_getD, List.getElem?_eq_getElem (by omega)]
        rfl
      generalize hpn : paneK L ls dr W k (nowK L ls dr W k) = pane at hm2 hm3
      refine a5.gd gd_1 r6 fun σ2 a6' => ?_
      have a6 : At true (noD H) H [q] C' [none, none, none, some (nats dr), some (.adr sq), some (.adr q), some (keyD (nowK L ls dr W k)), some (.int ((pl : Nat) : Int)), none, none, none] σ2 H' := a6'
      refine tseq_ ((a6.recall (j := 4) rfl hS).evP (d := .int ((pane : Nat) : Int)) (EvP.is (ev_call (F := FBack) (ea_cons (ev_ixL (ev_var rfl) (ev_var rfl) (atI_rng (f := fun w => D.dct (dZ (costAt L ls dr w))) (i := pl) (by omega))) (ea_cons (ev_var rfl) (ea_cons (ev_dget (d := .dct (dZ (costAt L ls dr (pl + 1)))) (ev_ixL (ev_var rfl) (ev_add (ev_var rfl) ev_int) (atI_rng (f := fun w => D.dct (dZ (costAt L ls dr w))) (i := pl + 1) (by omega))) rfl (ev_var rfl) (by rw [valDZ, hm1]; rfl)) (ea_cons (ev_ixT (d := .int ((dr.getD pl 0 : Nat) : Int)) (ev_var rfl) (ev_var rfl) (atI_nat (by rw [List.getElem?_map, hdp]; rfl))) ea_nil)))) ⟨costAt L ls dr pl, nowK L ls dr W k, m, dr.getD pl 0, rfl, by rw [hlen]; omega, rfl⟩) (by rw [hm2]; rfl)) fun v7 H7 e7 a7' r7 => ?_)
      refine gname_ ?_
      dsimp only
      have a7 : At true (noD H) H [q] C' [none, none, none, some (nats dr), some (.adr sq), some (.adr q), some (keyD (nowK L ls dr W k)), some (.int ((pl : Nat) : Int)), some (.int ((pane : Nat) : Int)), none, none] _ H7 := (a6.same' e7).set 8 r7
      have hS7 := hS.same (a6.up (.of e7) a7.own)
      refine tseq_ (a7.append (i := 5) (p := q) rfl (List.mem_singleton.mpr rfl) hc (by unfold wayK; rw [List.length_map, List.length_map, List.length_range]; omega) (EvP.x (ev_var rfl)) hc fun v8 H8 e8 a8 r8 => ?_)
      dsimp only
      have hS8 := hS7.same (a7.up e8 a8.own)
      refine a8.evP (ev_call (F := FLess) (ea_cons (ev_var rfl) (ea_cons (ev_var rfl) ea_nil)) ⟨nowK L ls dr W k, pane, rfl, hm3, by rw [hlen]; omega, rfl⟩) fun v9 H9 e9 a9' r9 => ?_
      refine gname_ ?_
      dsimp only
      have a9 : At true (noD H) H [q] _ [none, none, none, some (nats dr), some (.adr sq), some (.adr q), some (keyD (lessZ (nowK L ls dr W k) pane)), some (.int ((pl : Nat) : Int)), some (.int ((pane : Nat) : Int)), none, none] _ H9 := a9'.set 6 r9
      refine ⟨((f2.trans (.of e7)).trans e8).trans (.of e9), _, _, a9.fgt [7, 8] rfl, ?_, hS8.same (a8.up (.of e9) a9'.own), ?_⟩
      · rw [upd_same, r8.int_]
        have ew : wayK L ls dr W (k + 1) = wayK L ls dr W k ++ [pane] := by
          unfold wayK
          rw [List.range_succ, List.map_append]
          show _ ++ [paneK L ls dr W k (nowK L ls dr W k)] = _
          rw [hpn]
        rw [ew, List.map_append]
        rfl
      · have en : nowK L ls dr W (k + 1) = lessZ (nowK L ls dr W k) pane := by
          show lessZ (nowK L ls dr W k) (paneK L ls dr W k (nowK L ls dr W k)) = _
          rw [hpn]
        rw [en]
        rfl
    · -- return tuple(found[::-1])
      subst hps
      rw [List.length_map, List.length_range] at hc
      obtain ⟨b0, up, eqb⟩ := a5.rel hqA hq0
      have rq : R true (Gx [] (noD H) H H') (.ref q) (.lst ((wayK L ls dr W W).map fun n => .int (n : Nat))) := by
        refine .lst (by rw [eqb]; exact hc) ?_
        have z := rl_ints (b := true) (G := Gx [] (noD H) H H') ((wayK L ls dr W W).map fun n => ((n : Nat) : Int))
        rw [List.map_map, List.map_map] at z
        exact z
      refine (b0.recall (j := 5) rfl rq).evP (ev_tupL (ea_cons (ev_revL (ev_var rfl)) ea_nil)) fun v9 H9 e9 b1 r9 => ?_
      have er : (D.tup ((wayK L ls dr W W).map fun n => D.int (n : Nat)).reverse) = nats (wayK L ls dr W W).reverse := by
        rw [← List.map_reverse]
        rfl
      rw [er] at r9
      exact fin _ rfl _ _ (b1.sameN fun c m => nomatch m) (b1.immV r9 (nats_imm _))
end
end SP
set_option Elab.async false
set_option linter.all false
set_option maxRecDepth 100000
set_option maxHeartbeats 1000000
/-! Stillpanes: _law_drawings, _law_out. -/
namespace SP
open PySem L2 PySem.Spec PyProof.Rows
section
variable {P : Program} {w : World} {K : PySem.W.Frag} {mg : Str → Option Value} {base : Heap}
/-! ### _law_drawings -/
def drawsN (n : Nat) : Nat → List (List Nat)
  | 0 => [[]]
  | w + 1 => (drawsN n w).flatMap fun own => (List.range n).map fun p => own ++ [p]
theorem drawsN_mem {n : Nat} : ∀ {w : Nat} {t : List Nat}, t ∈ drawsN n w ↔ t.length = w ∧ ∀ p ∈ t, p < n
  | 0, t => by
    simp [drawsN]
    rintro rfl
    simp
  | w + 1, t => by
    rw [drawsN, List.mem_flatMap]
    constructor
    · rintro ⟨own, ho, h⟩
      obtain ⟨p, hp, rfl⟩ := List.mem_map.mp h
      obtain ⟨h1, h2⟩ := drawsN_mem.mp ho
      refine ⟨by rw [List.length_append, h1]; rfl, fun q hq => ?_⟩
      rcases List.mem_append.mp hq with hq | hq
      · exact h2 q hq
      · rw [List.mem_singleton.mp hq]; exact List.mem_range.mp hp
    · rintro ⟨h1, h2⟩
      have hne : t ≠ [] := fun z => by rw [z] at h1; cases h1
      refine ⟨t.dropLast, drawsN_mem.mpr ⟨by rw [List.length_dropLast, h1]; rfl, fun p hp => h2 p ((List.dropLast_sublist t).subset hp)⟩, List.mem_map.mpr ⟨t.getLast hne, List.mem_range.mpr (h2 _ (List.getLast_mem hne)), List.dropLast_concat_getLast hne⟩⟩
theorem drawsN_len {n : Nat} : ∀ w, (drawsN n w).length = n ^ w
  | 0 => rfl
  | w + 1 => by
    rw [drawsN, List.length_flatMap]
    have : ((drawsN n w).map fun own => ((List.range n).map fun p => own ++ [p]).length) = (drawsN n w).map fun _ => n := List.map_congr_left fun x _ => by simp
    rw [this, List.map_const', List.sum_replicate_nat, drawsN_len w, Nat.pow_succ]
def FDraws (ds : List D) (d : D) : Prop := ∃ (L : Lay) (W : Nat), ds = [L.d] ∧ L.Ok W ∧ L.rows.length ^ W ≤ 10000 ∧ d = .lst ((drawsN L.rows.length W).map nats)
theorem sc_law_drawings : FnScope ["_law_layout", "_law_found", "_law_width", "_law_later", "_law_own", "_law_pane"] ["_law_layout"] (defScope (top 39)) := ⟨rfl, rfl, rfl, by decide +kernel, rfl, by decide +kernel, by decide +kernel⟩
theorem ok_law_drawings (T : Txt mg) {f : Addr} {fd : FuncData} (Fn : Fun K "_law_drawings" "_law_drawings" (top 39) f fd) : FnOk P w K mg base (L2.CX P w) 1 f fd ["_law_layout"] (SpR FDraws) := by
  refine ok_new (k := 0) Fn sc_law_drawings (fun ds d ⟨L, W, e, _, _, _⟩ => by subst e; exact ⟨rfl, fun x hx => by rw [List.mem_singleton.mp hx]; exact L.imm⟩) fun cdv A outer s H E ds d hr ⟨L, W, e, hL, hz, ed⟩ => ?_
  subst e ed
  have n0 := hL.n0
  have n1 := hL.n1
  have w1 := hL.w1
  have hlw : ∀ j, j ≤ W → (drawsN L.rows.length j).length ≤ 10000 := fun j hj => by
    rw [drawsN_len]
    exact Nat.le_trans (Nat.pow_le_pow_right (by omega) hj) hz
  refine ⟨_, (pss_cons (ps_set (i := 1) sc_law_drawings.nd rfl (Or.inl rfl) (pe_lst (pa_cons (pe_tup pa_nil) pa_nil)))
      (pss_cons (ps_for (passes_of rfl) rfl (pi_range1 (by rfl) T.range_ (pa_cons (pe_op op_sub (pe_callB (len_ K) (by rfl) T.len_ bt_len (pa_cons (pe_ix (ixT_ K) (pe_ix (ixT_ K) (pv 0) pe_int (fun _ _ => rfl)) pe_int (fun _ _ => rfl)) pa_nil)) pe_int) pa_nil)) (pg_name (i := 2) sc_law_drawings.nd rfl (Or.inl rfl))
      (pss_cons (ps_set (i := 3) sc_law_drawings.nd rfl (Or.inl rfl) (pe_lst pa_nil))
      (pss_cons (ps_for (passes_of rfl) rfl (iL_ K (pv 1)) (pg_name (i := 4) sc_law_drawings.nd rfl (Or.inr rfl))
      (pss_one (ps_set (i := 3) sc_law_drawings.nd rfl (Or.inl rfl) (pe_op op_cat (pv 3) (pe_lc (own := [("_law_pane", 5)]) rfl sc_law_drawings.nd (pi_range1 (by rfl) T.range_ (pa_cons (pe_callB (len_ K) (by rfl) T.len_ bt_len (pa_cons (pe_ix (ixT_ K) (pv 0) pe_int (fun _ _ => rfl)) pa_nil)) pa_nil)) (blkOk_by (by rfl)) (fun _ _ _ _ _ => (pg_name (i := 5) sc_law_drawings.nd rfl (Or.inl rfl))) (fun _ _ _ _ _ => pts_nil) (fun _ _ _ _ _ => (pe_op (catT_ K) (pv 4) (pe_tup (pa_cons (pv 5) pa_nil)))))))))
      (pss_one (ps_set (i := 1) sc_law_drawings.nd rfl (Or.inl rfl) (pv 3))))))
      (pss_one (ps_ret (pv 1))))), ?_⟩
  refine sd_seq (sd_set (ev_lst (ea_cons (ev_tup ea_nil (by simp)) ea_nil) (by simp))) ?_
  refine sd_seq (sd_for (vs := [2]) (fun i => [some L.d, some (.lst ((drawsN L.rows.length i).map nats)), none, none, none, none]) W (IvP.is (iv_rng1 (n := W) (ea_cons (ev_sub (ev_lenT (ea_cons (ev_ixT (ev_ixT (ev_var rfl) ev_int rfl) ev_int (atI_mapN (g := keyD) (l := L.rows) (i := 0) [] (by omega))) ea_nil)) ev_int) ea_nil) ?_ ?_) (rng0 _)) rfl (fun i d hi hd => ?_) (.inl ⟨by simp, rfl⟩)) (sd_ret (ev_var rfl))
  · rw [List.length_map, hL.len 0 (by omega)]
    omega
  · rw [List.length_map, hL.len 0 (by omega)]
    omega
  · obtain ⟨_, rfl⟩ := rng_items hd
    refine ⟨_, gd_1, ?_⟩
    refine sd_fgt [2, 3, 4] (sd_seq (sd_set (ev_lst ea_nil (by simp))) (sd_seq (sd_for (vs := [4]) (o := .nx [some L.d, some (.lst ((drawsN L.rows.length i).map nats)), some (.int (i : Nat)), some (.lst ((drawsN L.rows.length (i + 1)).map nats)), none, none]) (fun k => [some L.d, some (.lst ((drawsN L.rows.length i).map nats)), some (.int (i : Nat)), some (.lst ((((drawsN L.rows.length i).take k).flatMap fun own => (List.range L.rows.length).map fun p => own ++ [p]).map nats)), none, none]) (drawsN L.rows.length i).length (iv_lst (ev_var rfl)) rfl (fun k d hk hd => ?_) (.inl ⟨by simp, ?_⟩)) (sd_set (ev_var rfl)))) rfl
    · rw [List.getElem?_map] at hd
      obtain ⟨own, ho, rfl⟩ := Option.map_eq_some_iff.mp hd
      have hol := (drawsN_mem.mp (List.mem_of_getElem? ho)).1
      have ht : (drawsN L.rows.length i).take (k + 1) = (drawsN L.rows.length i).take k ++ [own] := by
        rw [List.take_add_one, ho]
        rfl
      have hl2 : (((drawsN L.rows.length i).take (k + 1)).flatMap fun own => (List.range L.rows.length).map fun p => own ++ [p]).length ≤ 10000 := by
        have h1 := hlw (i + 1) (by omega)
        rw [drawsN] at h1
        refine Nat.le_trans ?_ h1
        have e : (drawsN L.rows.length i) = (drawsN L.rows.length i).take (k + 1) ++ (drawsN L.rows.length i).drop (k + 1) := (List.take_append_drop _ _).symm
        conv => rhs; rw [e]
        rw [List.flatMap_append, List.length_append]
        omega
      rw [ht, List.flatMap_append, List.length_append] at hl2
      refine ⟨_, gd_1, ?_⟩
      refine sd_fgt [4] (SdP.is (sd_set (ev_catL (ev_var rfl) (ev_lcA (List.range L.rows.length) (fun p => .int (p : Nat)) (fun p => [some L.d, some (.lst ((drawsN L.rows.length i).map nats)), some (.int (i : Nat)), some (.lst ((((drawsN L.rows.length i).take k).flatMap fun own => (List.range L.rows.length).map fun p => own ++ [p]).map nats)), some (nats own), some (.int (p : Nat))]) (fun p => nats (own ++ [p])) rfl (by rw [List.length_range]; omega) (IvP.is (iv_rng1 (n := L.rows.length) (ea_cons (ev_many (ev_var rfl)) ea_nil) (by simp) (by omega)) (rng0 _)) (fun x hx => gd_1) fun x hx => EvP.is (ev_catT (ev_var rfl) (ev_tup (ea_cons (ev_var rfl) ea_nil) (by simp)) ?_) ?_) ?_)) rfl) ?_
      · simp; omega
      · unfold nats
        simp
      · simp at hl2 ⊢; omega
      · rw [ht]
        simp [wipeP]
    · rw [List.take_length]
      rfl
end
end SP
set_option Elab.async false
set_option linter.all false
set_option maxRecDepth 100000
set_option maxHeartbeats 1000000
/-! Stillpanes: _law_out. -/
namespace SP
open PySem L2 PySem.Spec PyProof.Rows
section
variable {P : Program} {w : World} {K : PySem.W.Frag} {mg : Str → Option Value} {base : Heap}
def goodsAt (L : Lay) (g : List Nat) (off : Int) (wd : Nat) : List Int := if 0 < wd then ((List.range ((exactAt L g wd + off) / L.parts + 1).toNat).filter fun (k : Nat) => decide (offAt L g wd (k : Int) ≤ off)).map fun (k : Nat) => (k : Int) else [0]
def goodF (L : Lay) (dr : List Nat) (l : List Nat × Int) (acc : Int) (v : Nat) : Int := max (max acc ((goodsAt L l.1 l.2 v).headD 0 - (rowOf dr l.1).getD v 0)) ((rowOf dr l.1).getD v 0 - (goodsAt L l.1 l.2 v).getLastD 0)
def goodW (L : Lay) (dr : List Nat) (l : List Nat × Int) (s : Int) (v : Nat) : Int := (List.range v).foldl (goodF L dr l) s
def goodL (L : Lay) (dr : List Nat) (W : Nat) (ls : List (List Nat × Int)) : Int := ls.foldl (fun acc l => goodW L dr l acc (W + 1)) 0
def badG (L : Lay) (W : Nat) (l : List Nat × Int) : Bool := (List.range (W + 1)).any fun v => (goodsAt L l.1 l.2 v).isEmpty
def lawOut (L : Lay) (dr : List Nat) (W : Nat) (ls : List (List Nat × Int)) : Option Int := if ls.any (badG L W) = true then none else some (goodL L dr W ls)
def optI : Option Int → D
  | none => .non
  | some i => .int i
def FLOut (ds : List D) (d : D) : Prop := ∃ (L : Lay) (W : Nat) (dr : List Nat) (ls : List (List Nat × Int)), ds = [L.d, nats dr, limsD ls] ∧ L.Ok W ∧ LimsOk L ls ∧ DrawOk L W dr ∧ (∀ l ∈ ls, ∀ v, v ≤ W → -90000 ≤ exactAt L l.1 v + l.2 ∧ exactAt L l.1 v + l.2 ≤ 90000) ∧ d = optI (lawOut L dr W ls)
theorem sc_law_out : FnScope ["_law_layout", "_law_drawing", "_law_limits", "_law_found", "_law_group", "_law_off", "_law_width", "_law_many", "_law_exact_here", "_law_goods", "_law_own"] ["_law_layout", "_law_drawing", "_law_limits"] (defScope (top 45)) := ⟨rfl, rfl, rfl, by decide +kernel, rfl, by decide +kernel, by decide +kernel⟩
theorem ok_law_out (T : Txt mg) (h_law_row : Has P w K mg base "_law_row" ["_law_drawing", "_law_group"] 1 (SpR FRow)) (h_law_exact : Has P w K mg base "_law_exact" ["_law_layout", "_law_group", "_law_width"] 1 (SpR FExact)) {f : Addr} {fd : FuncData} (Fn : Fun K "_law_out" "_law_out" (top 45) f fd) : FnOk P w K mg base (L2.CX P w) 2 f fd ["_law_layout", "_law_drawing", "_law_limits"] (SpR FLOut) := by
  refine ok_imm (k := 1) Fn sc_law_out (fun ds d ⟨L, W, dr, ls, e, _, _, _, _, ed⟩ => by
    subst e ed
    refine ⟨rfl, ?_⟩
    cases lawOut L dr W ls with
    | none => exact .non
    | some i => exact .int i) fun cdv A outer s H E ds d hr ⟨L, W, dr, ls, e, hL, hl, hd, hbd, ed⟩ => ?_
  subst e ed
  have hr_law_row := hr
  have hr_law_exact := hr
  have hu64 := un_of (n := 64) hr
  have p0 := hL.p0
  have p1 := hL.p1
  have w1 := hL.w1
  have hdl := hd.1
  refine ⟨_, (pss_cons (ps_set (i := 3) sc_law_out.nd rfl (Or.inl rfl) pe_int)
      (pss_cons (ps_for (passes_of rfl) rfl (iT_ K (pv 2)) (gT_ K (n := 2) rfl (pgs_cons (pg_name (i := 4) sc_law_out.nd rfl (Or.inl rfl)) (pgs_cons (pg_name (i := 5) sc_law_out.nd rfl (Or.inr rfl)) pgs_nil)))
      (pss_one (ps_for (passes_of rfl) rfl (eT_ K (by rfl) T.enumerate_ (pa_cons (pe_has h_law_row hr_law_row (by rfl) (pa_cons (pv 1) (pa_cons (pv 4) pa_nil)) pass0) pa_nil)) (gT_ K (n := 2) rfl (pgs_cons (pg_name (i := 6) sc_law_out.nd rfl (Or.inl rfl)) (pgs_cons (pg_name (i := 7) sc_law_out.nd rfl (Or.inl rfl)) pgs_nil)))
      (pss_cons (ps_set (i := 8) sc_law_out.nd rfl (Or.inr rfl) (pe_has h_law_exact hr_law_exact (by rfl) (pa_cons (pv 0) (pa_cons (pv 4) (pa_cons (pv 6) pa_nil))) pass0))
      (pss_cons (ps_set (i := 9) sc_law_out.nd rfl (Or.inl rfl) (pe_ifExp (pt_cmpR op_gt (pv 6) pe_int (nomark _)) (pe_lc (own := [("_law_own", 10)]) rfl sc_law_out.nd (pi_range1 (by rfl) T.range_ (pa_cons (pe_op op_add (pe_op op_fdiv (pe_op op_add (pv 8) (pv 5)) (pe_ix (ixT_ K) (pv 0) pe_int (fun _ _ => rfl))) pe_int) pa_nil)) (blkOk_by (by rfl)) (fun _ _ _ _ _ => (pg_name (i := 10) sc_law_out.nd rfl (Or.inl rfl))) (fun _ _ _ _ _ => (pts_one (pt_cmpR op_le (pe_callB call_abs (by rfl) T.abs_ bt_abs (pa_cons (pe_op op_sub (pe_op op_mul (pv 10) (pe_ix (ixT_ K) (pv 0) pe_int (fun _ _ => rfl))) (pv 8)) pa_nil)) (pv 5) (nomark _)))) (fun _ _ _ _ _ => (pv 10))) (pe_lst (pa_cons pe_int pa_nil))))
      (pss_cons (ps_if (pt_cmpR (eqD_ K hu64) (pv 9) (pe_lst pa_nil) (nomark _))
      (pss_one (ps_ret pe_non))
      pss_nil)
      (pss_one (ps_set (i := 3) sc_law_out.nd rfl (Or.inl rfl) (pe_callB (call_max3Nu rfl) (by rfl) T.max_ bt_max (pa_cons (pv 3) (pa_cons (pe_op op_sub (pe_ix (ixL_ K) (pv 9) pe_int (fun _ _ => rfl)) (pv 7)) (pa_cons (pe_op op_sub (pv 7) (pe_ix (ixL_ K) (pv 9) (pe_un un_neg pe_int) (fun _ _ => rfl))) pa_nil))))))))))))
      (pss_one (ps_ret (pv 3))))), ?_⟩
  refine sd_seq (sd_set ev_int) ?_
  refine sd_ixS (vs := [4, 5]) (fun i => [some L.d, some (nats dr), some (limsD ls), some (.int (goodL L dr W (ls.take i))), none, none, none, none, none, none, none]) (fun i => badG L W (ls.getD i ([], 0))) (fun i => .rt .non) [4, 5] (iv_tup (ds := ls.map limD) (ev_var rfl)) rfl (fun i d hd' hj => ?_) (fun _ _ z => nomatch z) (fun i hi hb hj => ?_) (fun hall => ?_)
  · rw [List.getElem?_map] at hd'
    obtain ⟨l, hl', rfl⟩ := Option.map_eq_some_iff.mp hd'
    have hlm : l ∈ ls := List.mem_of_getElem? hl'
    have hgl : ls.getD i ([], 0) = l := by
      rw [List.getD_eq_getElem?_getD, hl']
      rfl
    rw [hgl]
    have hfd : goodL L dr W (ls.take (i + 1)) = goodW L dr l (goodL L dr W (ls.take i)) (W + 1) := by
      unfold goodL
      rw [List.take_add_one, hl', List.foldl_append]
      rfl
    refine ⟨_, [some L.d, some (nats dr), some (limsD ls), some (.int (goodL L dr W (ls.take (i + 1)))), some (nats l.1), some (.int l.2), none, none, none, none, none], gd_tup (gs_cons gd_name (gs_cons gd_name gs_nil)) rfl, rfl, ?_⟩
    refine sd_ix (vs := [6, 7]) (fun v => [some L.d, some (nats dr), some (limsD ls), some (.int (goodW L dr l (goodL L dr W (ls.take i)) v)), some (nats l.1), some (.int l.2), none, none, none, none, none]) (fun v => (goodsAt L l.1 l.2 v).isEmpty) (fun i => .rt .non) [6, 7, 8, 9] (IvP.is (iv_enumT (ea_cons (ev_call (F := FRow) (ea_cons (ev_var rfl) (ea_cons (ev_var rfl) ea_nil)) ⟨dr, l.1, rfl, by omega, rfl⟩) ea_nil)) (enum_map _ _)) rfl (fun v d hd'' hj => ?_) (fun _ _ z => nomatch z) (fun v hv hb hj => ?_) (fun hall => ?_)
    · obtain ⟨many, hm, rfl⟩ : ∃ many, (rowOf dr l.1)[v]? = some many ∧ d = .tup [.int (v : Nat), .int many] := by
        rw [List.getElem?_map] at hd''
        obtain ⟨⟨pn, i'⟩, hz, rfl⟩ := Option.map_eq_some_iff.mp hd''
        rw [List.getElem?_zipIdx] at hz
        obtain ⟨pn', hpn, hz⟩ := Option.map_eq_some_iff.mp hz
        cases hz
        exact ⟨pn, hpn, by simp⟩
      have hv : v ≤ W := by
        have := (List.getElem?_eq_some_iff.mp hm).1
        rw [rowOf_len] at this
        omega
      obtain ⟨hb1, hb2⟩ := hbd l hlm v hv
      have hmg : (rowOf dr l.1).getD v 0 = many := by
        rw [List.getD_eq_getElem?_getD, hm]
        rfl
      have hdiv1 : (exactAt L l.1 v + l.2) / L.parts ≤ 90000 := by
        rcases Int.lt_or_le (exactAt L l.1 v + l.2) 0 with h | h
        · have := Int.ediv_neg_of_neg_of_pos h p0
          omega
        · have := Int.ediv_le_self L.parts h
          omega
      have hdiv2 : -90000 ≤ (exactAt L l.1 v + l.2) / L.parts := by
        rw [Int.le_ediv_iff_mul_le p0]
        have h1 : (-90000 : Int) * L.parts ≤ -90000 * 1 := Int.mul_le_mul_of_nonpos_left (by omega) (by omega)
        omega
      refine ⟨_, [some L.d, some (nats dr), some (limsD ls), some (.int (goodW L dr l (goodL L dr W (ls.take i)) (v + 1))), some (nats l.1), some (.int l.2), some (.int (v : Nat)), some (.int many), some (.int (exactAt L l.1 v)), some (.lst ((goodsAt L l.1 l.2 v).map .int)), none], gd_tup (gs_cons gd_name (gs_cons gd_name gs_nil)) rfl, rfl, ?_⟩
      refine sd_seq (sd_set (ev_call (F := FExact) (ea_cons (ev_var rfl) (ea_cons (ev_var rfl) (ea_cons (ev_var rfl) ea_nil))) ⟨L, W, l.1, v, rfl, hL, hl.ix l hlm, hl.g1 l hlm, hv, rfl⟩)) ?_
      refine sd_seq (sd_set (d := .lst ((goodsAt L l.1 l.2 v).map .int)) (ev_if (c := decide (0 < v)) (EtP.is (et_test (ev_gt (ev_var rfl) ev_int)) ?_) (fun hz => ?_) fun hz => ?_)) ?_
      · by_cases h : 0 < v
        · rw [decide_eq_true h, decide_eq_true (by omega)]
        · rw [decide_eq_false h, decide_eq_false (by omega)]
      · have hz : 0 < v := by simpa using hz
        have eg : goodsAt L l.1 l.2 v = _ := if_pos hz
        rw [eg]
        refine ev_lc (List.range ((exactAt L l.1 v + l.2) / L.parts + 1).toNat) (fun k => .int (k : Nat)) (fun k => [some L.d, some (nats dr), some (limsD ls), some (.int (goodW L dr l (goodL L dr W (ls.take i)) v)), some (nats l.1), some (.int l.2), some (.int (v : Nat)), some (.int many), some (.int (exactAt L l.1 v)), none, some (.int (k : Nat))]) (fun k => decide (offAt L l.1 v k ≤ l.2)) (fun k => .int (k : Nat)) (by rw [List.map_map]; rfl) (by rw [List.length_range]; omega) (IvP.is (iv_rng1 (ea_cons (ev_add (ev_fdiv (ev_add (ev_var rfl) (ev_var rfl)) (ev_ixT (ev_var rfl) ev_int rfl) ⟨p0, by omega⟩) ev_int) ea_nil) rfl (by omega)) (rng0 _)) (fun x hx => gd_1) (fun k hk => et_test (EvP.is (ev_le (ev_abs (ea_cons (ev_sub (ev_mul (ev_var rfl) (ev_ixT (ev_var rfl) ev_int rfl) (cmul_r (by omega) (by omega))) (ev_var rfl)) ea_nil)) (ev_var rfl)) rfl)) fun k hk _ => ev_var rfl
      · have hz : ¬ 0 < v := by simpa using hz
        have eg : goodsAt L l.1 l.2 v = [0] := if_neg hz
        rw [eg]
        exact ev_lst (ea_cons ev_int ea_nil) (by simp)
      · have hsh : ∀ d ∈ (goodsAt L l.1 l.2 v).map D.int, Sh 0 d := fun d hd => by
          obtain ⟨i, _, rfl⟩ := List.mem_map.mp hd
          exact .int i
        cases hg : goodsAt L l.1 l.2 v with
        | nil =>
          rw [List.isEmpty_nil, if_pos rfl]
          exact sd_ifThen (c := true) (EtP.is (et_test (ev_eqNil (n := 0) (ev_var rfl) (fun _ z => nomatch z))) rfl) (fun _ => ⟨sd_ret ev_non, fun _ z => nomatch z⟩) (fun z => nomatch z)
        | cons g0 gr =>
          rw [hg] at hsh
          rw [List.isEmpty_cons, if_neg (by decide)]
          have hw : goodW L dr l (goodL L dr W (ls.take i)) (v + 1) = max (max (goodW L dr l (goodL L dr W (ls.take i)) v) (g0 - many)) (many - (g0 :: gr).getLastD 0) := by
            unfold goodW
            rw [List.range_succ, List.foldl_append]
            show goodF L dr l _ v = _
            unfold goodF
            rw [hg, hmg]
            rfl
          have hlast : atI ((g0 :: gr).map D.int) (-1) = some (.int ((g0 :: gr).getLastD 0)) := by
            obtain ⟨l', z, hz⟩ : ∃ l z, g0 :: gr = l ++ [z] := ⟨_, _, (List.dropLast_concat_getLast (by simp)).symm⟩
            rw [hz, List.map_append]
            show atI (l'.map D.int ++ [D.int z]) (-1) = _
            rw [atI_last]
            simp
          rw [hw]
          refine sd_seq (sd_if (c := false) (EtP.is (et_test (ev_eqNil (n := 0) (ev_var rfl) hsh)) rfl) (fun z => nomatch z) fun _ => sd_next) ?_
          exact SdP.is (sd_set (ev_max3 (ea_cons (ev_var rfl) (ea_cons (ev_sub (ev_ixL (d := .int g0) (ev_var rfl) ev_int (atI_nat (j := 0) rfl)) (ev_var rfl)) (ea_cons (ev_sub (ev_var rfl) (ev_ixL (ev_var rfl) (ev_neg ev_int) hlast)) ea_nil))))) rfl
    · rw [List.length_map, List.length_zipIdx, rowOf_len, hdl] at hv
      have : badG L W l = true := List.any_eq_true.mpr ⟨v, List.mem_range.mpr hv, hb⟩
      rw [this, if_pos rfl]
    · rw [List.length_map, List.length_zipIdx, rowOf_len, hdl] at hall ⊢
      have : badG L W l = false := List.any_eq_false.mpr fun v hv => by rw [hall v (List.mem_range.mp hv)]; decide
      rw [this, if_neg (by decide), hfd]
  · rw [List.length_map] at hi
    have hgi : ls.getD i ([], 0) ∈ ls := by
      rw [List.getD_eq_getElem?_getD, List.getElem?_eq_getElem hi]
      exact List.getElem_mem hi
    have : lawOut L dr W ls = none := if_pos (List.any_eq_true.mpr ⟨_, hgi, hb⟩)
    rw [this]
    rfl
  · rw [List.length_map] at hall ⊢
    have : lawOut L dr W ls = some (goodL L dr W ls) := if_neg fun z => by
      obtain ⟨l, hl1, hl2⟩ := List.any_eq_true.mp z
      obtain ⟨i, hi, e⟩ := List.getElem_of_mem hl1
      have := hall i hi
      rw [List.getD_eq_getElem?_getD, List.getElem?_eq_getElem hi] at this
      rw [← e] at hl2
      rw [show (some ls[i]).getD ([], 0) = ls[i] from rfl, hl2] at this
      cases this
    rw [this, List.take_length]
    exact sd_ret (ev_var rfl)
end
end SP
set_option Elab.async false
set_option linter.all false
set_option maxRecDepth 100000
set_option maxHeartbeats 1000000
/-! Stillpanes: _law_same, _law_is_one. -/
namespace SP
open PySem L2 PySem.Spec PyProof.Rows
/-- what _law_same says of two data of one shape -/
inductive Sm : Nat → D → D → Bool → Prop
  | int {n : Nat} (i j : Int) : Sm n (.int i) (.int j) (decide (i = j))
  | bl {n : Nat} (c k : Bool) : Sm n (.bl c) (.bl k) (decide (c = k))
  | str {n : Nat} (x : Str) : Sm n (.str x) (.str x) true
  | non {n : Nat} : Sm n .non .non true
  | tup {n : Nat} (ps : List (D × D × Bool)) (h : ∀ p ∈ ps, Sm n p.1 p.2.1 p.2.2) (hl : ps.length ≤ 10000) : Sm (n + 1) (.tup (ps.map (·.1))) (.tup (ps.map (·.2.1))) (ps.all (·.2.2))
  | lst {n : Nat} (ps : List (D × D × Bool)) (h : ∀ p ∈ ps, Sm n p.1 p.2.1 p.2.2) (hl : ps.length ≤ 10000) : Sm (n + 1) (.lst (ps.map (·.1))) (.lst (ps.map (·.2.1))) (ps.all (·.2.2))
theorem Sm.nst {n : Nat} {x y : D} {c : Bool} (h : Sm n x y c) : Nst n x ∧ Nst n y := by
  induction h with
  | int i j => exact ⟨.atom rfl, .atom rfl⟩
  | bl c k => exact ⟨.atom rfl, .atom rfl⟩
  | str x => exact ⟨.atom rfl, .atom rfl⟩
  | non => exact ⟨.atom rfl, .atom rfl⟩
  | tup ps h hl ih =>
    exact ⟨.tup (fun d hd => by
      obtain ⟨p, hp, rfl⟩ := List.mem_map.mp hd
      exact (ih p hp).1) (by rw [List.length_map]; exact hl), .tup (fun d hd => by
      obtain ⟨p, hp, rfl⟩ := List.mem_map.mp hd
      exact (ih p hp).2) (by rw [List.length_map]; exact hl)⟩
  | lst ps h hl ih =>
    exact ⟨.lst (fun d hd => by
      obtain ⟨p, hp, rfl⟩ := List.mem_map.mp hd
      exact (ih p hp).1) (by rw [List.length_map]; exact hl), .lst (fun d hd => by
      obtain ⟨p, hp, rfl⟩ := List.mem_map.mp hd
      exact (ih p hp).2) (by rw [List.length_map]; exact hl)⟩
section
variable {P : Program} {w : World} {K : PySem.W.Frag} {mg : Str → Option Value} {base : Heap}
def FSame (n : Nat) (ds : List D) (d : D) : Prop := ∃ x y c, ds = [x, y] ∧ Sm n x y c ∧ d = .bl c
theorem zip_same (ps : List (D × D × Bool)) : zipD (ps.map (·.1)) (ps.map (·.2.1)) = ps.map fun p => .tup [p.1, p.2.1] := by
  unfold zipD
  rw [List.zip_map']
  rw [List.map_map]
  rfl
theorem sc_law_same : FnScope ["_law_got", "_law_due", "_law_mine", "_law_own"] ["_law_got", "_law_due"] (defScope (top 34)) := ⟨rfl, rfl, rfl, by decide +kernel, rfl, by decide +kernel, by decide +kernel⟩
theorem ok_law_same (T : Txt mg) {f : Addr} {fd : FuncData} (Fn : Fun K "_law_same" "_law_same" (top 34) f fd) (hm : mg "_law_same" = some (.ref f)) (hk : PySem.W.keepIn K (.ref f) = true) (hb : Binds K fd ["_law_got", "_law_due"] []) :
    ∀ n, FnOk P w K mg base (L2.CX P w) (n + 1) f fd ["_law_got", "_law_due"] (SpR (FSame n)) := by
  intro n
  induction n using Nat.strongRecOn with
  | ind n ih =>
    refine ok_nst (k := n) Fn sc_law_same (fun ds d ⟨x, y, c, e, hx, ed⟩ => by
      subst e ed
      exact ⟨rfl, fun d hd => by
        rcases List.mem_cons.mp hd with rfl | hd
        · exact ⟨n, hx.nst.1⟩
        · rw [List.mem_singleton.mp hd]; exact ⟨n, hx.nst.2⟩, .bl _⟩) fun cdv A outer s H E ds d hr ⟨x, y, c, e, hx, ed⟩ => ?_
    subst e ed
    cases hx with
    | int i j =>
      refine ⟨_, (pss_cons (ps_if (pt_val (pe_callB (isiT_ K) (by rfl) T.isinstance_ bt_isinstance (pa_cons (pv 1) (pa_cons (pe_tup (pa_cons (pe_bltn (v := .ty "list") (by rfl) T.list_ bt_list rfl) (pa_cons (pe_bltn (v := .ty "tuple") (by rfl) T.tuple_ bt_tuple rfl) pa_nil))) pa_nil))))
      pss_never
      pss_nil)
      (pss_cons (ps_if (PW.pt (pw_or (pt_cmpR op_isN (pv 1) pe_non (nomark _)) (pw_or1 (pt_val (pe_callB (isiT_ K) (by rfl) T.isinstance_ bt_isinstance (pa_cons (pv 1) (pa_cons (pe_tup (pa_cons (pe_bltn (v := .ty "bool") (by rfl) T.bool_ bt_bool rfl) (pa_cons (pe_bltn (v := .ty "str") (by rfl) T.str_ bt_str rfl) pa_nil))) pa_nil)))))))
      (pss_one (ps_ret (pe_and (pe_cmpR op_eq (pv 0) (pv 1) (nomark _)) (pe_and (pe_cmpR op_eq (pe_callB (isi_ K) (by rfl) T.isinstance_ bt_isinstance (pa_cons (pv 0) (pa_cons (pe_bltn (v := .ty "bool") (by rfl) T.bool_ bt_bool rfl) pa_nil))) (pe_callB (isi_ K) (by rfl) T.isinstance_ bt_isinstance (pa_cons (pv 1) (pa_cons (pe_bltn (v := .ty "bool") (by rfl) T.bool_ bt_bool rfl) pa_nil))) (nomark _)) (pe_one (pe_cmpR op_eq (pe_cmpR op_isN (pv 0) pe_non (nomark _)) (pe_cmpR op_isN (pv 1) pe_non (nomark _)) (nomark _)))))))
      pss_nil)
      (pss_one (ps_ret (pe_and (pe_callB (isi_ K) (by rfl) T.isinstance_ bt_isinstance (pa_cons (pv 0) (pa_cons (pe_bltn (v := .ty "int") (by rfl) T.int_ bt_int rfl) pa_nil))) (pe_and (pe_not (pe_callB (isi_ K) (by rfl) T.isinstance_ bt_isinstance (pa_cons (pv 0) (pa_cons (pe_bltn (v := .ty "bool") (by rfl) T.bool_ bt_bool rfl) pa_nil)))) (pe_one (pe_cmpR op_eq (pv 0) (pv 1) (nomark _))))))))), ?_⟩
      refine sd_ifThen (c := false) (EtP.is (et_B (ev_isi2 (n := "int") (ea_cons (ev_var rfl) (ea_cons (ev_tup (ea_cons ev_cls (ea_cons ev_cls ea_nil)) (by simp)) ea_nil)) rfl (by decide +kernel : kitB "int" "list" = some false) (by decide +kernel : kitB "int" "tuple" = some false))) rfl) (fun h => nomatch h) fun _ => ?_
      refine sd_ifThen (c := false) (et_or (c := false) (k := false) (EtP.is (et_test (ev_isN (ev_var rfl))) rfl) fun _ => EtP.is (et_B (ev_isi2 (n := "int") (ea_cons (ev_var rfl) (ea_cons (ev_tup (ea_cons ev_cls (ea_cons ev_cls ea_nil)) (by simp)) ea_nil)) rfl (by decide +kernel : kitB "int" "bool" = some false) (by decide +kernel : kitB "int" "str" = some false))) rfl) (fun h => nomatch h) fun _ => ?_
      refine sd_ret (EvP.is (ev_andV (c := true) (ev_isi (n := "int") (ea_cons (ev_var rfl) (ea_cons ev_cls ea_nil)) rfl (by decide +kernel : kitB "int" "int" = some true)) fun _ => ev_andV (c := true) (EvP.is (ev_notV (ev_isi (n := "int") (ea_cons (ev_var rfl) (ea_cons ev_cls ea_nil)) rfl (by decide +kernel : kitB "int" "bool" = some false))) rfl) fun _ => ev_eqI (ev_var rfl) (ev_var rfl)) ?_)
      rw [Bool.true_and, Bool.true_and]
    | bl c k =>
      refine ⟨_, (pss_cons (ps_if (pt_val (pe_callB (isiT_ K) (by rfl) T.isinstance_ bt_isinstance (pa_cons (pv 1) (pa_cons (pe_tup (pa_cons (pe_bltn (v := .ty "list") (by rfl) T.list_ bt_list rfl) (pa_cons (pe_bltn (v := .ty "tuple") (by rfl) T.tuple_ bt_tuple rfl) pa_nil))) pa_nil))))
      pss_never
      pss_nil)
      (pss_cons (ps_if (PW.pt (pw_or (pt_cmpR op_isN (pv 1) pe_non (nomark _)) (pw_or1 (pt_val (pe_callB (isiT_ K) (by rfl) T.isinstance_ bt_isinstance (pa_cons (pv 1) (pa_cons (pe_tup (pa_cons (pe_bltn (v := .ty "bool") (by rfl) T.bool_ bt_bool rfl) (pa_cons (pe_bltn (v := .ty "str") (by rfl) T.str_ bt_str rfl) pa_nil))) pa_nil)))))))
      (pss_one (ps_ret (pe_and (pe_cmpR op_eq (pv 0) (pv 1) (nomark _)) (pe_and (pe_cmpR op_eq (pe_callB (isi_ K) (by rfl) T.isinstance_ bt_isinstance (pa_cons (pv 0) (pa_cons (pe_bltn (v := .ty "bool") (by rfl) T.bool_ bt_bool rfl) pa_nil))) (pe_callB (isi_ K) (by rfl) T.isinstance_ bt_isinstance (pa_cons (pv 1) (pa_cons (pe_bltn (v := .ty "bool") (by rfl) T.bool_ bt_bool rfl) pa_nil))) (nomark _)) (pe_one (pe_cmpR op_eq (pe_cmpR op_isN (pv 0) pe_non (nomark _)) (pe_cmpR op_isN (pv 1) pe_non (nomark _)) (nomark _)))))))
      pss_nil)
      (pss_one (ps_ret (pe_and (pe_callB (isi_ K) (by rfl) T.isinstance_ bt_isinstance (pa_cons (pv 0) (pa_cons (pe_bltn (v := .ty "int") (by rfl) T.int_ bt_int rfl) pa_nil))) (pe_and (pe_not (pe_callB (isi_ K) (by rfl) T.isinstance_ bt_isinstance (pa_cons (pv 0) (pa_cons (pe_bltn (v := .ty "bool") (by rfl) T.bool_ bt_bool rfl) pa_nil)))) (pe_one (pe_cmpR op_eq (pv 0) (pv 1) (nomark _))))))))), ?_⟩
      refine sd_ifThen (c := false) (EtP.is (et_B (ev_isi2 (n := "bool") (ea_cons (ev_var rfl) (ea_cons (ev_tup (ea_cons ev_cls (ea_cons ev_cls ea_nil)) (by simp)) ea_nil)) rfl (by decide +kernel : kitB "bool" "list" = some false) (by decide +kernel : kitB "bool" "tuple" = some false))) rfl) (fun h => nomatch h) fun _ => ?_
      refine sd_ifThen (c := true) (et_or (c := false) (k := true) (EtP.is (et_test (ev_isN (ev_var rfl))) rfl) fun _ => EtP.is (et_B (ev_isi2 (n := "bool") (ea_cons (ev_var rfl) (ea_cons (ev_tup (ea_cons ev_cls (ea_cons ev_cls ea_nil)) (by simp)) ea_nil)) rfl (by decide +kernel : kitB "bool" "bool" = some true) (by decide +kernel : kitB "bool" "str" = some false))) rfl) (fun _ => ⟨?_, fun _ z => nomatch z⟩) fun h => nomatch h
      refine sd_ret (EvP.is (ev_andV (ev_eqB (ev_var rfl) (ev_var rfl)) fun _ => ev_andV (c := true) (EvP.is (ev_eqB (ev_isi (n := "bool") (ea_cons (ev_var rfl) (ea_cons ev_cls ea_nil)) rfl (by decide +kernel : kitB "bool" "bool" = some true)) (ev_isi (n := "bool") (ea_cons (ev_var rfl) (ea_cons ev_cls ea_nil)) rfl (by decide +kernel : kitB "bool" "bool" = some true))) rfl) fun _ => EvP.is (e := .bl true) (ev_eqB (EvP.is (e := .bl false) (ev_isN (ev_var rfl)) rfl) (EvP.is (e := .bl false) (ev_isN (ev_var rfl)) rfl)) rfl) ?_)
      simp
    | str z =>
      refine ⟨_, (pss_cons (ps_if (pt_val (pe_callB (isiT_ K) (by rfl) T.isinstance_ bt_isinstance (pa_cons (pv 1) (pa_cons (pe_tup (pa_cons (pe_bltn (v := .ty "list") (by rfl) T.list_ bt_list rfl) (pa_cons (pe_bltn (v := .ty "tuple") (by rfl) T.tuple_ bt_tuple rfl) pa_nil))) pa_nil))))
      pss_never
      pss_nil)
      (pss_cons (ps_if (PW.pt (pw_or (pt_cmpR op_isN (pv 1) pe_non (nomark _)) (pw_or1 (pt_val (pe_callB (isiT_ K) (by rfl) T.isinstance_ bt_isinstance (pa_cons (pv 1) (pa_cons (pe_tup (pa_cons (pe_bltn (v := .ty "bool") (by rfl) T.bool_ bt_bool rfl) (pa_cons (pe_bltn (v := .ty "str") (by rfl) T.str_ bt_str rfl) pa_nil))) pa_nil)))))))
      (pss_one (ps_ret (pe_and (pe_cmpR op_eq (pv 0) (pv 1) (nomark _)) (pe_and (pe_cmpR op_eq (pe_callB (isi_ K) (by rfl) T.isinstance_ bt_isinstance (pa_cons (pv 0) (pa_cons (pe_bltn (v := .ty "bool") (by rfl) T.bool_ bt_bool rfl) pa_nil))) (pe_callB (isi_ K) (by rfl) T.isinstance_ bt_isinstance (pa_cons (pv 1) (pa_cons (pe_bltn (v := .ty "bool") (by rfl) T.bool_ bt_bool rfl) pa_nil))) (nomark _)) (pe_one (pe_cmpR op_eq (pe_cmpR op_isN (pv 0) pe_non (nomark _)) (pe_cmpR op_isN (pv 1) pe_non (nomark _)) (nomark _)))))))
      pss_nil)
      (pss_one (ps_ret (pe_and (pe_callB (isi_ K) (by rfl) T.isinstance_ bt_isinstance (pa_cons (pv 0) (pa_cons (pe_bltn (v := .ty "int") (by rfl) T.int_ bt_int rfl) pa_nil))) (pe_and (pe_not (pe_callB (isi_ K) (by rfl) T.isinstance_ bt_isinstance (pa_cons (pv 0) (pa_cons (pe_bltn (v := .ty "bool") (by rfl) T.bool_ bt_bool rfl) pa_nil)))) (pe_one (pe_cmpR op_eq (pv 0) (pv 1) (nomark _))))))))), ?_⟩
      refine sd_ifThen (c := false) (EtP.is (et_B (ev_isi2 (n := "str") (ea_cons (ev_var rfl) (ea_cons (ev_tup (ea_cons ev_cls (ea_cons ev_cls ea_nil)) (by simp)) ea_nil)) rfl (by decide +kernel : kitB "str" "list" = some false) (by decide +kernel : kitB "str" "tuple" = some false))) rfl) (fun h => nomatch h) fun _ => ?_
      refine sd_ifThen (c := true) (et_or (c := false) (k := true) (EtP.is (et_test (ev_isN (ev_var rfl))) rfl) fun _ => EtP.is (et_B (ev_isi2 (n := "str") (ea_cons (ev_var rfl) (ea_cons (ev_tup (ea_cons ev_cls (ea_cons ev_cls ea_nil)) (by simp)) ea_nil)) rfl (by decide +kernel : kitB "str" "bool" = some false) (by decide +kernel : kitB "str" "str" = some true))) rfl) (fun _ => ⟨?_, fun _ z => nomatch z⟩) fun h => nomatch h
      refine sd_ret (EvP.is (ev_andV (ev_eqS (ev_var rfl) (ev_var rfl)) fun _ => ev_andV (c := true) (EvP.is (ev_eqB (ev_isi (n := "str") (ea_cons (ev_var rfl) (ea_cons ev_cls ea_nil)) rfl (by decide +kernel : kitB "str" "bool" = some false)) (ev_isi (n := "str") (ea_cons (ev_var rfl) (ea_cons ev_cls ea_nil)) rfl (by decide +kernel : kitB "str" "bool" = some false))) rfl) fun _ => EvP.is (e := .bl true) (ev_eqB (EvP.is (e := .bl false) (ev_isN (ev_var rfl)) rfl) (EvP.is (e := .bl false) (ev_isN (ev_var rfl)) rfl)) rfl) ?_)
      simp
    | non =>
      refine ⟨_, (pss_cons (ps_if (pt_val (pe_callB (isiT_ K) (by rfl) T.isinstance_ bt_isinstance (pa_cons (pv 1) (pa_cons (pe_tup (pa_cons (pe_bltn (v := .ty "list") (by rfl) T.list_ bt_list rfl) (pa_cons (pe_bltn (v := .ty "tuple") (by rfl) T.tuple_ bt_tuple rfl) pa_nil))) pa_nil))))
      pss_never
      pss_nil)
      (pss_cons (ps_if (PW.pt (pw_or (pt_cmpR op_isN (pv 1) pe_non (nomark _)) (pw_or1 (pt_val (pe_callB (isiT_ K) (by rfl) T.isinstance_ bt_isinstance (pa_cons (pv 1) (pa_cons (pe_tup (pa_cons (pe_bltn (v := .ty "bool") (by rfl) T.bool_ bt_bool rfl) (pa_cons (pe_bltn (v := .ty "str") (by rfl) T.str_ bt_str rfl) pa_nil))) pa_nil)))))))
      (pss_one (ps_ret (pe_and (pe_cmpR op_eq (pv 0) (pv 1) (nomark _)) (pe_and (pe_cmpR op_eq (pe_callB (isi_ K) (by rfl) T.isinstance_ bt_isinstance (pa_cons (pv 0) (pa_cons (pe_bltn (v := .ty "bool") (by rfl) T.bool_ bt_bool rfl) pa_nil))) (pe_callB (isi_ K) (by rfl) T.isinstance_ bt_isinstance (pa_cons (pv 1) (pa_cons (pe_bltn (v := .ty "bool") (by rfl) T.bool_ bt_bool rfl) pa_nil))) (nomark _)) (pe_one (pe_cmpR op_eq (pe_cmpR op_isN (pv 0) pe_non (nomark _)) (pe_cmpR op_isN (pv 1) pe_non (nomark _)) (nomark _)))))))
      pss_nil)
      (pss_one (ps_ret (pe_and (pe_callB (isi_ K) (by rfl) T.isinstance_ bt_isinstance (pa_cons (pv 0) (pa_cons (pe_bltn (v := .ty "int") (by rfl) T.int_ bt_int rfl) pa_nil))) (pe_and (pe_not (pe_callB (isi_ K) (by rfl) T.isinstance_ bt_isinstance (pa_cons (pv 0) (pa_cons (pe_bltn (v := .ty "bool") (by rfl) T.bool_ bt_bool rfl) pa_nil)))) (pe_one (pe_cmpR op_eq (pv 0) (pv 1) (nomark _))))))))), ?_⟩
      refine sd_ifThen (c := false) (EtP.is (et_B (ev_isi2 (n := "NoneType") (ea_cons (ev_var rfl) (ea_cons (ev_tup (ea_cons ev_cls (ea_cons ev_cls ea_nil)) (by simp)) ea_nil)) rfl (by decide +kernel : kitB "NoneType" "list" = some false) (by decide +kernel : kitB "NoneType" "tuple" = some false))) rfl) (fun h => nomatch h) fun _ => ?_
      refine sd_ifThen (c := true) (et_or (c := true) (k := true) (EtP.is (et_test (ev_isN (ev_var rfl))) rfl) fun z => nomatch z) (fun _ => ⟨?_, fun _ z => nomatch z⟩) fun h => nomatch h
      refine sd_ret (EvP.is (ev_andV (ev_eqNN (ev_var rfl) (ev_var rfl)) fun _ => ev_andV (c := true) (EvP.is (ev_eqB (ev_isi (n := "NoneType") (ea_cons (ev_var rfl) (ea_cons ev_cls ea_nil)) rfl (by decide +kernel : kitB "NoneType" "bool" = some false)) (ev_isi (n := "NoneType") (ea_cons (ev_var rfl) (ea_cons ev_cls ea_nil)) rfl (by decide +kernel : kitB "NoneType" "bool" = some false))) rfl) fun _ => EvP.is (e := .bl true) (ev_eqB (EvP.is (e := .bl true) (ev_isN (ev_var rfl)) rfl) (EvP.is (e := .bl true) (ev_isN (ev_var rfl)) rfl)) rfl) ?_)
      simp
    | @tup m ps h hl =>
      have h_law_same : Has P w K mg base "_law_same" ["_law_got", "_law_due"] (m + 1) (SpR (FSame m)) := ⟨f, fd, ih m (Nat.lt_succ_self m), hm, hk, hb⟩
      have hr_law_same := hr
      refine ⟨_, (pss_cons (ps_if (pt_val (pe_callB (isiT_ K) (by rfl) T.isinstance_ bt_isinstance (pa_cons (pv 1) (pa_cons (pe_tup (pa_cons (pe_bltn (v := .ty "list") (by rfl) T.list_ bt_list rfl) (pa_cons (pe_bltn (v := .ty "tuple") (by rfl) T.tuple_ bt_tuple rfl) pa_nil))) pa_nil))))
      (pss_cons (ps_if (PW.pt (pw_or (pt_cmpR op_ne (pe_callB (isi_ K) (by rfl) T.isinstance_ bt_isinstance (pa_cons (pv 0) (pa_cons (pe_bltn (v := .ty "list") (by rfl) T.list_ bt_list rfl) pa_nil))) (pe_callB (isi_ K) (by rfl) T.isinstance_ bt_isinstance (pa_cons (pv 1) (pa_cons (pe_bltn (v := .ty "list") (by rfl) T.list_ bt_list rfl) pa_nil))) (nomark _)) (pw_or1 (pt_cmpR op_ne (pe_callB (isi_ K) (by rfl) T.isinstance_ bt_isinstance (pa_cons (pv 0) (pa_cons (pe_bltn (v := .ty "tuple") (by rfl) T.tuple_ bt_tuple rfl) pa_nil))) (pe_callB (isi_ K) (by rfl) T.isinstance_ bt_isinstance (pa_cons (pv 1) (pa_cons (pe_bltn (v := .ty "tuple") (by rfl) T.tuple_ bt_tuple rfl) pa_nil))) (nomark _)))))
      (pss_one (ps_ret pe_bl))
      pss_nil)
      (pss_one (ps_ret (pe_and (pe_cmpR op_eq (pe_callB (len_ K) (by rfl) T.len_ bt_len (pa_cons (pv 0) pa_nil)) (pe_callB (len_ K) (by rfl) T.len_ bt_len (pa_cons (pv 1) pa_nil)) (nomark _)) (pe_one (pe_callB (all_ K rfl) (by rfl) T.all_ bt_all (pa_cons (pe_lc (own := [("_law_mine", 2), ("_law_own", 3)]) rfl sc_law_same.nd (zA_ K (by rfl) T.zip_ (pa_cons (pv 0) (pa_cons (pv 1) pa_nil))) (blkOk_by (by rfl)) (fun _ _ _ _ _ => (gT_ K (n := 2) rfl (pgs_cons (pg_name (i := 2) sc_law_same.nd rfl (Or.inl rfl)) (pgs_cons (pg_name (i := 3) sc_law_same.nd rfl (Or.inl rfl)) pgs_nil)))) (fun _ _ _ _ _ => pts_nil) (fun _ _ _ _ _ => (pe_has h_law_same hr_law_same (by rfl) (pa_cons (pv 2) (pa_cons (pv 3) pa_nil)) pass0))) pa_nil)))))))
      pss_nil)
      (pss_cons (ps_if (PW.pt (pw_or (pt_cmpR op_isN (pv 1) pe_non (nomark _)) (pw_or1 (pt_val (pe_callB (isiT_ K) (by rfl) T.isinstance_ bt_isinstance (pa_cons (pv 1) (pa_cons (pe_tup (pa_cons (pe_bltn (v := .ty "bool") (by rfl) T.bool_ bt_bool rfl) (pa_cons (pe_bltn (v := .ty "str") (by rfl) T.str_ bt_str rfl) pa_nil))) pa_nil)))))))
      (pss_one (ps_ret (pe_and (pe_cmpR op_eq (pv 0) (pv 1) (nomark _)) (pe_and (pe_cmpR op_eq (pe_callB (isi_ K) (by rfl) T.isinstance_ bt_isinstance (pa_cons (pv 0) (pa_cons (pe_bltn (v := .ty "bool") (by rfl) T.bool_ bt_bool rfl) pa_nil))) (pe_callB (isi_ K) (by rfl) T.isinstance_ bt_isinstance (pa_cons (pv 1) (pa_cons (pe_bltn (v := .ty "bool") (by rfl) T.bool_ bt_bool rfl) pa_nil))) (nomark _)) (pe_one (pe_cmpR op_eq (pe_cmpR op_isN (pv 0) pe_non (nomark _)) (pe_cmpR op_isN (pv 1) pe_non (nomark _)) (nomark _)))))))
      pss_nil)
      (pss_one (ps_ret (pe_and (pe_callB (isi_ K) (by rfl) T.isinstance_ bt_isinstance (pa_cons (pv 0) (pa_cons (pe_bltn (v := .ty "int") (by rfl) T.int_ bt_int rfl) pa_nil))) (pe_and (pe_not (pe_callB (isi_ K) (by rfl) T.isinstance_ bt_isinstance (pa_cons (pv 0) (pa_cons (pe_bltn (v := .ty "bool") (by rfl) T.bool_ bt_bool rfl) pa_nil)))) (pe_one (pe_cmpR op_eq (pv 0) (pv 1) (nomark _))))))))), ?_⟩
      refine sd_ifThen (c := true) (EtP.is (et_B (ev_isi2 (n := "tuple") (ea_cons (ev_var rfl) (ea_cons (ev_tup (ea_cons ev_cls (ea_cons ev_cls ea_nil)) (by simp)) ea_nil)) rfl (by decide +kernel : kitB "tuple" "list" = some false) (by decide +kernel : kitB "tuple" "tuple" = some true))) rfl) (fun _ => ⟨?_, fun _ z => nomatch z⟩) fun h => nomatch h
      refine sd_ifThen (c := false) (et_or (c := false) (k := false) (EtP.is (et_test (ev_neB (ev_isi (n := "tuple") (ea_cons (ev_var rfl) (ea_cons ev_cls ea_nil)) rfl (by decide +kernel : kitB "tuple" "list" = some false)) (ev_isi (n := "tuple") (ea_cons (ev_var rfl) (ea_cons ev_cls ea_nil)) rfl (by decide +kernel : kitB "tuple" "list" = some false)))) rfl) fun _ => EtP.is (et_test (ev_neB (ev_isi (n := "tuple") (ea_cons (ev_var rfl) (ea_cons ev_cls ea_nil)) rfl (by decide +kernel : kitB "tuple" "tuple" = some true)) (ev_isi (n := "tuple") (ea_cons (ev_var rfl) (ea_cons ev_cls ea_nil)) rfl (by decide +kernel : kitB "tuple" "tuple" = some true)))) rfl) (fun h => nomatch h) fun _ => ?_
      refine sd_ret (EvP.is (ev_andV (c := true) (EvP.is (ev_eqI (ev_lenT (ea_cons (ev_var rfl) ea_nil)) (ev_lenT (ea_cons (ev_var rfl) ea_nil))) (by rw [List.length_map, List.length_map]; simp)) fun _ => ev_all (bs := ps.map (·.2.2)) (ea_cons (ev_lcA ps (fun p => .tup [p.1, p.2.1]) (fun p => [some (.tup (ps.map (·.1))), some (.tup (ps.map (·.2.1))), some p.1, some p.2.1]) (fun p => .bl p.2.2) (by rw [List.map_map]; rfl) (by omega) (IvP.is (iv_zipT (ea_cons (ev_var rfl) (ea_cons (ev_var rfl) ea_nil))) (zip_same ps)) (fun p hp => gd_tup (gs_cons (gd_name (by decide)) (gs_cons (gd_name (by decide)) gs_nil)) rfl) fun p hp => ev_call (F := FSame m) (ea_cons (ev_var rfl) (ea_cons (ev_var rfl) ea_nil)) ⟨p.1, p.2.1, p.2.2, rfl, h p hp, rfl⟩) ea_nil)) ?_)
      rw [Bool.true_and, List.all_map]
      rfl
    | @lst m ps h hl =>
      have h_law_same : Has P w K mg base "_law_same" ["_law_got", "_law_due"] (m + 1) (SpR (FSame m)) := ⟨f, fd, ih m (Nat.lt_succ_self m), hm, hk, hb⟩
      have hr_law_same := hr
      refine ⟨_, (pss_cons (ps_if (pt_val (pe_callB (isiT_ K) (by rfl) T.isinstance_ bt_isinstance (pa_cons (pv 1) (pa_cons (pe_tup (pa_cons (pe_bltn (v := .ty "list") (by rfl) T.list_ bt_list rfl) (pa_cons (pe_bltn (v := .ty "tuple") (by rfl) T.tuple_ bt_tuple rfl) pa_nil))) pa_nil))))
      (pss_cons (ps_if (PW.pt (pw_or (pt_cmpR op_ne (pe_callB (isi_ K) (by rfl) T.isinstance_ bt_isinstance (pa_cons (pv 0) (pa_cons (pe_bltn (v := .ty "list") (by rfl) T.list_ bt_list rfl) pa_nil))) (pe_callB (isi_ K) (by rfl) T.isinstance_ bt_isinstance (pa_cons (pv 1) (pa_cons (pe_bltn (v := .ty "list") (by rfl) T.list_ bt_list rfl) pa_nil))) (nomark _)) (pw_or1 (pt_cmpR op_ne (pe_callB (isi_ K) (by rfl) T.isinstance_ bt_isinstance (pa_cons (pv 0) (pa_cons (pe_bltn (v := .ty "tuple") (by rfl) T.tuple_ bt_tuple rfl) pa_nil))) (pe_callB (isi_ K) (by rfl) T.isinstance_ bt_isinstance (pa_cons (pv 1) (pa_cons (pe_bltn (v := .ty "tuple") (by rfl) T.tuple_ bt_tuple rfl) pa_nil))) (nomark _)))))
      (pss_one (ps_ret pe_bl))
      pss_nil)
      (pss_one (ps_ret (pe_and (pe_cmpR op_eq (pe_callB (len_ K) (by rfl) T.len_ bt_len (pa_cons (pv 0) pa_nil)) (pe_callB (len_ K) (by rfl) T.len_ bt_len (pa_cons (pv 1) pa_nil)) (nomark _)) (pe_one (pe_callB (all_ K rfl) (by rfl) T.all_ bt_all (pa_cons (pe_lc (own := [("_law_mine", 2), ("_law_own", 3)]) rfl sc_law_same.nd (zA_ K (by rfl) T.zip_ (pa_cons (pv 0) (pa_cons (pv 1) pa_nil))) (blkOk_by (by rfl)) (fun _ _ _ _ _ => (gT_ K (n := 2) rfl (pgs_cons (pg_name (i := 2) sc_law_same.nd rfl (Or.inl rfl)) (pgs_cons (pg_name (i := 3) sc_law_same.nd rfl (Or.inl rfl)) pgs_nil)))) (fun _ _ _ _ _ => pts_nil) (fun _ _ _ _ _ => (pe_has h_law_same hr_law_same (by rfl) (pa_cons (pv 2) (pa_cons (pv 3) pa_nil)) pass0))) pa_nil)))))))
      pss_nil)
      (pss_cons (ps_if (PW.pt (pw_or (pt_cmpR op_isN (pv 1) pe_non (nomark _)) (pw_or1 (pt_val (pe_callB (isiT_ K) (by rfl) T.isinstance_ bt_isinstance (pa_cons (pv 1) (pa_cons (pe_tup (pa_cons (pe_bltn (v := .ty "bool") (by rfl) T.bool_ bt_bool rfl) (pa_cons (pe_bltn (v := .ty "str") (by rfl) T.str_ bt_str rfl) pa_nil))) pa_nil)))))))
      (pss_one (ps_ret (pe_and (pe_cmpR op_eq (pv 0) (pv 1) (nomark _)) (pe_and (pe_cmpR op_eq (pe_callB (isi_ K) (by rfl) T.isinstance_ bt_isinstance (pa_cons (pv 0) (pa_cons (pe_bltn (v := .ty "bool") (by rfl) T.bool_ bt_bool rfl) pa_nil))) (pe_callB (isi_ K) (by rfl) T.isinstance_ bt_isinstance (pa_cons (pv 1) (pa_cons (pe_bltn (v := .ty "bool") (by rfl) T.bool_ bt_bool rfl) pa_nil))) (nomark _)) (pe_one (pe_cmpR op_eq (pe_cmpR op_isN (pv 0) pe_non (nomark _)) (pe_cmpR op_isN (pv 1) pe_non (nomark _)) (nomark _)))))))
      pss_nil)
      (pss_one (ps_ret (pe_and (pe_callB (isi_ K) (by rfl) T.isinstance_ bt_isinstance (pa_cons (pv 0) (pa_cons (pe_bltn (v := .ty "int") (by rfl) T.int_ bt_int rfl) pa_nil))) (pe_and (pe_not (pe_callB (isi_ K) (by rfl) T.isinstance_ bt_isinstance (pa_cons (pv 0) (pa_cons (pe_bltn (v := .ty "bool") (by rfl) T.bool_ bt_bool rfl) pa_nil)))) (pe_one (pe_cmpR op_eq (pv 0) (pv 1) (nomark _))))))))), ?_⟩
      refine sd_ifThen (c := true) (EtP.is (et_B (ev_isi2 (n := "list") (ea_cons (ev_var rfl) (ea_cons (ev_tup (ea_cons ev_cls (ea_cons ev_cls ea_nil)) (by simp)) ea_nil)) rfl (by decide +kernel : kitB "list" "list" = some true) (by decide +kernel : kitB "list" "tuple" = some false))) rfl) (fun _ => ⟨?_, fun _ z => nomatch z⟩) fun h => nomatch h
      refine sd_ifThen (c := false) (et_or (c := false) (k := false) (EtP.is (et_test (ev_neB (ev_isi (n := "list") (ea_cons (ev_var rfl) (ea_cons ev_cls ea_nil)) rfl (by decide +kernel : kitB "list" "list" = some true)) (ev_isi (n := "list") (ea_cons (ev_var rfl) (ea_cons ev_cls ea_nil)) rfl (by decide +kernel : kitB "list" "list" = some true)))) rfl) fun _ => EtP.is (et_test (ev_neB (ev_isi (n := "list") (ea_cons (ev_var rfl) (ea_cons ev_cls ea_nil)) rfl (by decide +kernel : kitB "list" "tuple" = some false)) (ev_isi (n := "list") (ea_cons (ev_var rfl) (ea_cons ev_cls ea_nil)) rfl (by decide +kernel : kitB "list" "tuple" = some false)))) rfl) (fun h => nomatch h) fun _ => ?_
      refine sd_ret (EvP.is (ev_andV (c := true) (EvP.is (ev_eqI (ev_lenL (ea_cons (ev_var rfl) ea_nil)) (ev_lenL (ea_cons (ev_var rfl) ea_nil))) (by rw [List.length_map, List.length_map]; simp)) fun _ => ev_all (bs := ps.map (·.2.2)) (ea_cons (ev_lcA ps (fun p => .tup [p.1, p.2.1]) (fun p => [some (.lst (ps.map (·.1))), some (.lst (ps.map (·.2.1))), some p.1, some p.2.1]) (fun p => .bl p.2.2) (by rw [List.map_map]; rfl) (by omega) (IvP.is (iv_zipL (ea_cons (ev_var rfl) (ea_cons (ev_var rfl) ea_nil))) (zip_same ps)) (fun p hp => gd_tup (gs_cons (gd_name (by decide)) (gs_cons (gd_name (by decide)) gs_nil)) rfl) fun p hp => ev_call (F := FSame m) (ea_cons (ev_var rfl) (ea_cons (ev_var rfl) ea_nil)) ⟨p.1, p.2.1, p.2.2, rfl, h p hp, rfl⟩) ea_nil)) ?_)
      rw [Bool.true_and, List.all_map]
      rfl
end
end SP
set_option Elab.async false
set_option linter.all false
set_option maxRecDepth 100000
set_option maxHeartbeats 1000000
/-! Stillpanes: _law_is_one. -/
namespace SP
open PySem L2 PySem.Spec PyProof.Rows
theorem Sm.is {n : Nat} {x y x' y' : D} {c c' : Bool} (h : Sm n x y c) (hx : x = x') (hy : y = y') (hc : c = c') : Sm n x' y' c' := by subst hx hy hc; exact h
theorem sm_nats {n : Nat} : ∀ {t u : List Nat}, t.length = u.length → t.length ≤ 10000 → Sm (n + 1) (nats t) (nats u) (decide (t = u)) := fun {t u} hl hz => by
  refine Sm.is (.tup ((t.zip u).map fun p => (.int (p.1 : Nat), .int (p.2 : Nat), decide (((p.1 : Nat) : Int) = ((p.2 : Nat) : Int)))) (fun p hp => ?_) (by rw [List.length_map, List.length_zip]; omega)) ?_ ?_ ?_
  · obtain ⟨q, _, rfl⟩ := List.mem_map.mp hp
    exact .int _ _
  · rw [List.map_map]
    unfold nats
    congr 1
    have : t = (t.zip u).map (·.1) := by rw [List.map_fst_zip (by omega)]
    conv => rhs; rw [this]
    rw [List.map_map]
    rfl
  · rw [List.map_map]
    unfold nats
    congr 1
    have : u = (t.zip u).map (·.2) := by rw [List.map_snd_zip (by omega)]
    conv => rhs; rw [this]
    rw [List.map_map]
    rfl
  · rw [List.all_map]
    clear hz
    induction t generalizing u with
    | nil =>
      cases u with
      | nil => rfl
      | cons b u => cases hl
    | cons a t ih =>
      cases u with
      | nil => cases hl
      | cons b u =>
        rw [List.zip_cons_cons, List.all_cons, ih (by simpa using hl)]
        by_cases h : a = b
        · subst h
          by_cases h2 : t = u
          · subst h2; simp
          · simp [h2]
        · have : ¬ ((a : Nat) : Int) = ((b : Nat) : Int) := by omega
          simp [h]
          exact fun z => absurd z this
section
variable {P : Program} {w : World} {K : PySem.W.Frag} {mg : Str → Option Value} {base : Heap}
def FIsOne (ds : List D) (d : D) : Prop := ∃ (t : List Nat) (gs : List (List Nat)), ds = [nats t, .lst (gs.map nats)] ∧ (∀ g ∈ gs, g.length = t.length) ∧ t.length ≤ 1000 ∧ gs.length ≤ 10000 ∧ d = .bl (decide (t ∈ gs))
theorem nst_nats {n : Nat} {t : List Nat} (h : t.length ≤ 10000) : Nst (n + 1) (nats t) := .tup (fun d hd => by
  obtain ⟨i, _, rfl⟩ := List.mem_map.mp hd
  exact .atom rfl) (by rw [List.length_map]; exact h)
theorem sc_law_is_one : FnScope ["_law_told", "_law_some", "_law_own"] ["_law_told", "_law_some"] (defScope (top 35)) := ⟨rfl, rfl, rfl, by decide +kernel, rfl, by decide +kernel, by decide +kernel⟩
theorem ok_law_is_one (T : Txt mg) (h_law_same : Has P w K mg base "_law_same" ["_law_got", "_law_due"] 2 (SpR (FSame 1))) {f : Addr} {fd : FuncData} (Fn : Fun K "_law_is_one" "_law_is_one" (top 35) f fd) : FnOk P w K mg base (L2.CX P w) 3 f fd ["_law_told", "_law_some"] (SpR FIsOne) := by
  refine ok_nst (k := 2) Fn sc_law_is_one (fun ds d ⟨t, gs, e, h1, h2, h3, ed⟩ => by
    subst e ed
    exact ⟨rfl, fun d hd => by
      rcases List.mem_cons.mp hd with rfl | hd
      · exact ⟨1, nst_nats (by omega)⟩
      · rw [List.mem_singleton.mp hd]
        exact ⟨2, .lst (fun d hd => by
          obtain ⟨g, hg, rfl⟩ := List.mem_map.mp hd
          exact nst_nats (by rw [h1 g hg]; omega)) (by rw [List.length_map]; exact h3)⟩, .bl _⟩) fun cdv A outer s H E ds d hr ⟨t, gs, e, h1, h2, h3, ed⟩ => ?_
  subst e ed
  have hr_law_same := hr
  have hu64 := un_of (n := 64) hr
  refine ⟨_, (pss_one (ps_ret (pe_cmpR (neD_ K hu64) (pe_lc (own := [("_law_own", 2)]) rfl sc_law_is_one.nd (iL_ K (pv 1)) (blkOk_by (by rfl)) (fun _ _ _ _ _ => (pg_name (i := 2) sc_law_is_one.nd rfl (Or.inl rfl))) (fun _ _ _ _ _ => (pts_one (pt_val (pe_has h_law_same hr_law_same (by rfl) (pa_cons (pv 0) (pa_cons (pv 2) pa_nil)) pass0)))) (fun _ _ _ _ _ => (pv 2))) (pe_lst pa_nil) (nomark _)))), ?_⟩
  refine sd_ret (EvP.is (ev_neNil (n := 1) (ev_lc gs nats (fun g => [some (nats t), some (.lst (gs.map nats)), some (nats g)]) (fun g => decide (t = g)) nats rfl (by omega) (iv_lst (ev_var rfl)) (fun g hg => gd_1) (fun g hg => et_B (ev_call (F := FSame 1) (ea_cons (ev_var rfl) (ea_cons (ev_var rfl) ea_nil)) ⟨nats t, nats g, _, rfl, sm_nats (h1 g hg).symm (by omega), rfl⟩)) fun g hg _ => ev_var rfl) (fun d hd => ?_)) ?_)
  · obtain ⟨g, _, rfl⟩ := List.mem_map.mp hd
    exact .tup fun d hd => by
      obtain ⟨i, _, rfl⟩ := List.mem_map.mp hd
      exact .int _
  · congr 1
    by_cases h : t ∈ gs
    · rw [decide_eq_true h]
      have : t ∈ gs.filter fun g => decide (t = g) := List.mem_filter.mpr ⟨h, by simp⟩
      cases hf : gs.filter fun g => decide (t = g) with
      | nil => rw [hf] at this; cases this
      | cons a b => rfl
    · rw [decide_eq_false h]
      have : gs.filter (fun g => decide (t = g)) = [] := List.filter_eq_nil_iff.mpr fun g hg z => h (by rw [of_decide_eq_true z]; exact hg)
      rw [this]
      rfl
end
end SP
set_option Elab.async false
set_option linter.all false
set_option maxRecDepth 100000
set_option maxHeartbeats 1000000
/-! Stillpanes: _law_take, _law_of, _law_drawn_drawing. -/
namespace SP
open PySem L2 PySem.Spec PyProof.Rows
/-- the urn: what is left of the number, the seed, the count -/
def onceZ (b c : Int) : Int := ((b + 48271 * c) * (39373 + c)) % 2147483647
def twiceZ (b c : Int) : Int := ((onceZ b c + c + b / 1000003) * (onceZ b c % 40009 + 7)) % 2147483629
def takeV : List Int → Int → Int
  | [a, b, c], m => if 0 < a then a % m else ((twiceZ b (c + 1) * 48271 + onceZ b (c + 1)) % 2147483587 / 64) % m
  | _, _ => 0
def takeS : List Int → Int → List Int
  | [a, b, c], m => if 0 < a then [a / m, b, c] else [a, b, c + 1]
  | us, _ => us
structure UOk (n : Int) (us : List Int) : Prop where
  ex : ∃ a b c, us = [a, b, c] ∧ 0 ≤ b ∧ b ≤ 4611686018427387904 ∧ 0 ≤ c ∧ c ≤ n
theorem UOk.take {n m : Int} {us : List Int} (h : UOk n us) : UOk (n + 1) (takeS us m) := by
  obtain ⟨a, b, c, rfl, h1, h2, h3, h4⟩ := h.ex
  rw [show takeS [a, b, c] m = if 0 < a then [a / m, b, c] else [a, b, c + 1] from rfl]
  split
  · exact ⟨_, _, _, rfl, h1, h2, h3, by omega⟩
  · exact ⟨_, _, _, rfl, h1, h2, by omega, by omega⟩
theorem UOk.up {n m : Int} {us : List Int} (h : UOk n us) (hm : n ≤ m) : UOk m us := by
  obtain ⟨a, b, c, rfl, h1, h2, h3, h4⟩ := h.ex
  exact ⟨_, _, _, rfl, h1, h2, h3, by omega⟩
theorem takeV_ok {us : List Int} {m : Int} (hm : 0 < m) : 0 ≤ takeV us m ∧ takeV us m < m := by
  unfold takeV
  split
  · split
    · exact ⟨Int.emod_nonneg _ (by omega), Int.emod_lt_of_pos _ hm⟩
    · exact ⟨Int.emod_nonneg _ (by omega), Int.emod_lt_of_pos _ hm⟩
  · exact ⟨Int.le_refl _, hm⟩
theorem cmulR {i j : Int} (h1 : -18446744073709551616 < j) (h2 : j < 18446744073709551616) : CMul i j := .inr ⟨by omega, by omega⟩
section
variable {P : Program} {w : World} {K : PySem.W.Frag} {mg : Str → Option Value} {base : Heap}
def FTake (us : List Int) (ds : List D) (us' : List Int) (d : D) : Prop := ∃ m : Int, ds = [.int m] ∧ 0 < m ∧ m ≤ 1000000 ∧ UOk 1000000 us ∧ us' = takeS us m ∧ d = .int (takeV us m)
theorem sc_law_take : FnScope ["_law_urn", "_law_below", "_law_drawn", "_law_once", "_law_far", "_law_twice"] ["_law_urn", "_law_below"] (defScope (top 30)) := ⟨rfl, rfl, rfl, by decide +kernel, rfl, by decide +kernel, by decide +kernel⟩
theorem ok_law_take (T : Txt mg) {f : Addr} {fd : FuncData} (Fn : Fun K "_law_take" "_law_take" (top 30) f fd) : FnOk P w K mg base (L2.CX P w) 1 f fd ["_law_urn", "_law_below"] (SpU FTake) := by
  refine ok_U (k := 0) Fn sc_law_take (fun us ds us' d ⟨m, e, _⟩ => by
    subst e
    exact ⟨rfl, fun x hx => by rw [List.mem_singleton.mp hx]; exact .int _⟩) fun cdv A outer s H E us ds us' d hr ⟨m, e, hm0, hm1, hU, eu, ed⟩ => ?_
  subst e eu ed
  obtain ⟨a, b, c, rfl, hb0, hb1, hc0, hc1⟩ := hU.ex
  refine ⟨_, (pss_cons (ps_if (pt_cmpR op_gt (pe_ix (ixL_ K) (pv 0) pe_int (fun _ _ => rfl)) pe_int (nomark _))
      (pss_cons (ps_set (i := 2) sc_law_take.nd rfl (Or.inl rfl) (pe_op op_mod (pe_callTy call_int1 (by rfl) T.int_ bt_int (pa_cons (pe_ix (ixL_ K) (pv 0) pe_int (fun _ _ => rfl)) pa_nil)) (pv 1)))
      (pss_cons (ps_asg (pe_op op_fdiv (pe_ix (ixL_ K) (pv 0) pe_int (fun _ _ => rfl)) (pv 1)) (pg_sub (pv 0) pe_int set_list))
      (pss_one (ps_ret (pv 2)))))
      pss_nil)
      (pss_cons (ps_asg (pe_op op_add (pe_ix (ixL_ K) (pv 0) pe_int (fun _ _ => rfl)) pe_int) (pg_sub (pv 0) pe_int set_list))
      (pss_cons (ps_set (i := 3) sc_law_take.nd rfl (Or.inl rfl) (pe_op op_mod (pe_callTy call_int1 (by rfl) T.int_ bt_int (pa_cons (pe_op op_mul (pe_op op_add (pe_ix (ixL_ K) (pv 0) pe_int (fun _ _ => rfl)) (pe_op op_mul pe_int (pe_ix (ixL_ K) (pv 0) pe_int (fun _ _ => rfl)))) (pe_op op_add pe_int (pe_ix (ixL_ K) (pv 0) pe_int (fun _ _ => rfl)))) pa_nil)) pe_int))
      (pss_cons (ps_set (i := 4) sc_law_take.nd rfl (Or.inl rfl) (pe_op op_add (pe_op op_mod (pe_callTy call_int1 (by rfl) T.int_ bt_int (pa_cons (pv 3) pa_nil)) pe_int) pe_int))
      (pss_cons (ps_set (i := 5) sc_law_take.nd rfl (Or.inl rfl) (pe_op op_mod (pe_callTy call_int1 (by rfl) T.int_ bt_int (pa_cons (pe_op op_mul (pe_op op_add (pe_op op_add (pv 3) (pe_ix (ixL_ K) (pv 0) pe_int (fun _ _ => rfl))) (pe_op op_fdiv (pe_ix (ixL_ K) (pv 0) pe_int (fun _ _ => rfl)) pe_int)) (pv 4)) pa_nil)) pe_int))
      (pss_one (ps_ret (pe_op op_mod (pe_callTy call_int1 (by rfl) T.int_ bt_int (pa_cons (pe_op op_fdiv (pe_op op_mod (pe_callTy call_int1 (by rfl) T.int_ bt_int (pa_cons (pe_op op_add (pe_op op_mul (pv 5) pe_int) (pv 3)) pa_nil)) pe_int) pe_int) pa_nil)) (pv 1))))))))), fun σ Dn u a0 fin => ?_⟩
  have hu : u ∈ [u] := List.mem_singleton.mpr rfl
  have a0 : At true (tups H) H [u] _ [some (.adr u), some (.int m), none, none, none, none] σ H := a0
  have hg0 : atI ([a, b, c].map D.int) 0 = some (.int a) := atI_nat (j := 0) rfl
  have hg1 : atI ([a, b, c].map D.int) 1 = some (.int b) := atI_nat (j := 1) rfl
  have hg2 : atI ([a, b, c].map D.int) 2 = some (.int c) := atI_nat (j := 2) rfl
  refine tseq_ (a0.etO (j := 0) (c := decide (0 < a)) (ds := [a, b, c].map .int) rfl hu upd_same (fun G => rl_ints _) (et_test (ev_gt (ev_ixL (ev_var rfl) ev_int hg0) ev_int)) fun H1 e1 a1 => ?_)
  by_cases ha : 0 < a
  · rw [decide_eq_true ha, if_pos rfl]
    have es : takeS [a, b, c] m = [a / m, b, c] := if_pos ha
    have ev : takeV [a, b, c] m = a % m := if_pos ha
    rw [es, ev] at fin
    refine tseq_ (a1.evO (j := 0) (ds := [a, b, c].map .int) rfl hu upd_same (fun G => rl_ints _) (ev_mod (ev_intI (ea_cons (ev_ixL (ev_var rfl) ev_int hg0) ea_nil)) (ev_var rfl) hm0) (.int _) fun v H2 e2 a2' r2 => ?_)
    refine gname_ ?_
    dsimp only
    have a2 : At true (tups H) H [u] _ [some (.adr u), some (.int m), some (.int (a % m)), none, none, none] _ H2 := a2'.set 2 r2
    refine tseq_ (a2.setO (j := 0) (i := 0) rfl hu upd_same (ev_fdiv (ev_ixL (ev_var rfl) ev_int hg0) (ev_var rfl) ⟨hm0, by omega⟩) ev_int rfl fun H3 e3 a3 => ?_)
    dsimp only
    refine a3.evP (ev_var (n := 2) rfl) fun v H4 e4 a4 r4 => fin v H4 a4.same ?_ (a4.immV r4 (.int _))
    rw [a4.own.at hu, upd_same]
    rfl
  · rw [decide_eq_false ha, if_neg (by decide)]
    have es : takeS [a, b, c] m = [a, b, c + 1] := if_neg ha
    have ev : takeV [a, b, c] m = ((twiceZ b (c + 1) * 48271 + onceZ b (c + 1)) % 2147483587 / 64) % m := if_neg ha
    rw [es, ev] at fin
    have hk1 : atI ([a, b, c + 1].map D.int) 1 = some (.int b) := atI_nat (j := 1) rfl
    have hk2 : atI ([a, b, c + 1].map D.int) 2 = some (.int (c + 1)) := atI_nat (j := 2) rfl
    have ho0 : 0 ≤ onceZ b (c + 1) := Int.emod_nonneg _ (by omega)
    have ho1 : onceZ b (c + 1) < 2147483647 := Int.emod_lt_of_pos _ (by omega)
    have ht0 : 0 ≤ twiceZ b (c + 1) := Int.emod_nonneg _ (by omega)
    have ht1 : twiceZ b (c + 1) < 2147483629 := Int.emod_lt_of_pos _ (by omega)
    refine tseq_ (a1.setO (j := 0) (i := 2) rfl hu upd_same (ev_add (ev_ixL (ev_var rfl) ev_int hg2) ev_int) ev_int rfl fun H2 e2 a2 => ?_)
    dsimp only
    refine tseq_ (a2.evO (j := 0) (d := .int (onceZ b (c + 1))) (ds := [a, b, c + 1].map .int) rfl hu upd_same (fun G => rl_ints _) (ev_mod (ev_intI (ea_cons (ev_mul (ev_add (ev_ixL (ev_var rfl) ev_int hk1) (ev_mul ev_int (ev_ixL (ev_var rfl) ev_int hk2) (cmul_l (by omega) (by omega)))) (ev_add ev_int (ev_ixL (ev_var rfl) ev_int hk2)) (cmulR (by omega) (by omega))) ea_nil)) ev_int (by omega)) (.int _) fun v H3 e3 a3' r3 => ?_)
    refine gname_ ?_
    dsimp only
    have a3 : At true (tups H) H [u] _ [some (.adr u), some (.int m), none, some (.int (onceZ b (c + 1))), none, none] _ H3 := a3'.set 3 r3
    refine tseq_ (a3.evP (ev_add (ev_mod (ev_intI (ea_cons (ev_var (n := 3) rfl) ea_nil)) ev_int (by omega)) ev_int) fun v H4 e4 a4' r4 => ?_)
    refine gname_ ?_
    dsimp only
    have hf0 : 0 ≤ onceZ b (c + 1) % 40009 := Int.emod_nonneg _ (by omega)
    have hf1 : onceZ b (c + 1) % 40009 < 40009 := Int.emod_lt_of_pos _ (by omega)
    have a4 : At true (tups H) H [u] _ [some (.adr u), some (.int m), none, some (.int (onceZ b (c + 1))), some (.int (onceZ b (c + 1) % 40009 + 7)), none] _ H4 := a4'.set 4 r4
    refine tseq_ (a4.evO (j := 0) (d := .int (twiceZ b (c + 1))) (ds := [a, b, c + 1].map .int) rfl hu upd_same (fun G => rl_ints _) (ev_mod (ev_intI (ea_cons (ev_mul (ev_add (ev_add (ev_var rfl) (ev_ixL (ev_var rfl) ev_int hk2)) (ev_fdiv (ev_ixL (ev_var rfl) ev_int hk1) ev_int ⟨by omega, by omega⟩)) (ev_var rfl) (cmulR (by omega) (by omega))) ea_nil)) ev_int (by omega)) (.int _) fun v H5 e5 a5' r5 => ?_)
    refine gname_ ?_
    dsimp only
    have a5 : At true (tups H) H [u] _ [some (.adr u), some (.int m), none, some (.int (onceZ b (c + 1))), some (.int (onceZ b (c + 1) % 40009 + 7)), some (.int (twiceZ b (c + 1)))] _ H5 := a5'.set 5 r5
    refine a5.evP (ev_mod (ev_intI (ea_cons (ev_fdiv (ev_mod (ev_intI (ea_cons (ev_add (ev_mul (ev_var (n := 5) rfl) ev_int (cmulR (by omega) (by omega))) (ev_var (n := 3) rfl)) ea_nil)) ev_int (by omega)) ev_int ⟨by omega, by omega⟩) ea_nil)) (ev_var (n := 1) rfl) hm0) fun v H6 e6 a6 r6 => fin v H6 a6.same ?_ (a6.immV r6 (.int _))
    rw [a6.own.at hu, upd_same]
    rfl
end
end SP
set_option Elab.async false
set_option linter.all false
set_option maxRecDepth 100000
set_option maxHeartbeats 1000000
/-! Stillpanes: _law_of, _law_drawn_drawing. -/
namespace SP
open PySem L2 PySem.Spec PyProof.Rows
theorem upd_twice {C : Hp} {u : Addr} {x y : HO} : upd (upd C u x) u y = upd C u y := by
  funext c
  by_cases h : c = u
  · subst h; rw [upd_same, upd_same]
  · rw [upd_ne h, upd_ne h, upd_ne h]
section
variable {A : List Addr} {C C1 C2 : Hp} {b : Bool} {ps : Ds} {t : TA} {ds : List D} {K : PySem.W.Frag}
theorem evx_tupL (h : EaX A C b ps t [.lst ds] C1) : EvX A C b ps (tCB (rTupQ K) t) (.tup ds) C1 := evx_cb h fun vs H G s rl Q q => by
  obtain ⟨v, rfl, r⟩ := rl.one_
  obtain ⟨a, vs, rfl, e, l⟩ := r.lst_
  exact ⟨a, vs, rfl, .inl ⟨SqL.of (s _ _ e), fun p hp => q _ _ (same_upd hp) (r_newT s hp l)⟩⟩
theorem evx_take {E : L2.St → XK} {u : Addr} {us : List Int} {m : Int} {j : Nat} {te : TE} (hu : u ∈ A) (hj : ps[j]? = some (some (.adr u))) (h : EvP b ps te (.int m)) (h0 : 0 < m) (h1 : m ≤ 1000000) (hU : UOk 1000000 us) :
    EvX A (upd C u (urnO us)) b ps (tCallS (SpU FTake) E (tCons (tVar j) (tCons te tNil))) (.int (takeV us m)) (upd C u (urnO (takeS us m))) :=
  (evx_callU (st := us) hu upd_same (ea_cons (ev_var hj) (ea_cons h ea_nil)) ⟨m, rfl, h0, h1, hU, rfl, rfl⟩).to upd_twice
end
/-- the urn after i takes below m -/
def iterS (us : List Int) (m : Int) : Nat → List Int
  | 0 => us
  | i + 1 => takeS (iterS us m i) m
def drawnN (us : List Int) (m : Int) (n : Nat) : List Nat := (List.range n).map fun j => (takeV (iterS us m j) m).toNat
theorem UOk.iter {n m : Int} {us : List Int} (h : UOk n us) : ∀ i : Nat, UOk (n + i) (iterS us m i)
  | 0 => h.up (by omega)
  | i + 1 => ((h.iter i).take).up (by omega)
theorem drawnN_len {us : List Int} {m : Int} {n : Nat} : (drawnN us m n).length = n := by unfold drawnN; simp
theorem drawnN_lt {us : List Int} {m : Nat} {n : Nat} (hm : 0 < m) : ∀ p ∈ drawnN us m n, p < m := fun p hp => by
  obtain ⟨j, _, rfl⟩ := List.mem_map.mp hp
  have := takeV_ok (us := iterS us m j) (m := m) (by omega)
  omega
section
variable {P : Program} {w : World} {K : PySem.W.Frag} {mg : Str → Option Value} {base : Heap}
/-! ### _law_of -/
def FOf (us : List Int) (ds : List D) (us' : List Int) (d : D) : Prop := ∃ xs : List (List Nat), ds = [.lst (xs.map nats)] ∧ 0 < xs.length ∧ xs.length ≤ 10000 ∧ UOk 1000000 us ∧ us' = takeS us xs.length ∧ d = nats (xs.getD (takeV us xs.length).toNat [])
theorem sc_law_of : FnScope ["_law_urn", "_law_some"] ["_law_urn", "_law_some"] (defScope (top 32)) := ⟨rfl, rfl, rfl, by decide +kernel, rfl, by decide +kernel, by decide +kernel⟩
theorem ok_law_of (T : Txt mg) (h_law_take : Has P w K mg base "_law_take" ["_law_urn", "_law_below"] 1 (SpU FTake)) {f : Addr} {fd : FuncData} (Fn : Fun K "_law_of" "_law_of" (top 32) f fd) : FnOk P w K mg base (L2.CX P w) 2 f fd ["_law_urn", "_law_some"] (SpU FOf) := by
  refine ok_UP (k := 1) Fn sc_law_of (fun us ds us' d ⟨xs, e, _⟩ => by subst e; rfl) fun cdv A outer s H E us ds us' d hr ⟨xs, e, hx0, hx1, hU, eu, ed⟩ => ?_
  subst e eu ed
  have hr_law_take := hr
  refine ⟨_, (pss_one (ps_ret (pe_ix (ixL_ K) (pv 1) (pe_has h_law_take hr_law_take (by rfl) (pa_cons (pv 0) (pa_cons (pe_callB (len_ K) (by rfl) T.len_ bt_len (pa_cons (pv 1) pa_nil)) pa_nil)) pass0) (fun _ _ => rfl)))), fun σ Dn u a0 fin => ?_⟩
  have hu : u ∈ [u] := List.mem_singleton.mpr rfl
  have a0 : At false (hid [u] H) H [u] _ [some (.adr u), some (.lst (xs.map nats))] σ H := a0
  have ht := takeV_ok (us := us) (m := xs.length) (by omega)
  refine a0.ev (evx_ixL (d := nats (xs.getD (takeV us xs.length).toNat [])) (EvP.x (ev_var (n := 1) rfl)) (evx_take (m := xs.length) hu rfl (EvP.is (ev_lenL (ea_cons (ev_var (n := 1) rfl) ea_nil)) (by rw [List.length_map])) (by omega) (by omega) hU) ?_) fun v H1 e1 a1 r1 => fin v H1 a1.same ?_ (a1.immV r1 (nats_imm _))
  · obtain ⟨n, hn⟩ : ∃ n : Nat, takeV us xs.length = n := ⟨(takeV us xs.length).toNat, by omega⟩
    rw [hn] at ht ⊢
    exact atI_mapN (g := nats) [] (by omega)
  · rw [a1.own.at hu, upd_same]
/-! ### _law_drawn_drawing -/
def FDrawn (us : List Int) (ds : List D) (us' : List Int) (d : D) : Prop := ∃ (L : Lay) (W : Nat), ds = [L.d] ∧ L.Ok W ∧ UOk 999000 us ∧ us' = iterS us L.rows.length W ∧ d = nats (drawnN us L.rows.length W)
theorem sc_law_drawn_drawing : FnScope ["_law_urn", "_law_layout", "_law_width"] ["_law_urn", "_law_layout"] (defScope (top 43)) := ⟨rfl, rfl, rfl, by decide +kernel, rfl, by decide +kernel, by decide +kernel⟩
theorem ok_law_drawn_drawing (T : Txt mg) (h_law_take : Has P w K mg base "_law_take" ["_law_urn", "_law_below"] 1 (SpU FTake)) {f : Addr} {fd : FuncData} (Fn : Fun K "_law_drawn_drawing" "_law_drawn_drawing" (top 43) f fd) : FnOk P w K mg base (L2.CX P w) 2 f fd ["_law_urn", "_law_layout"] (SpU FDrawn) := by
  refine ok_U (k := 1) Fn sc_law_drawn_drawing (fun us ds us' d ⟨L, W, e, _⟩ => by subst e; exact ⟨rfl, fun x hx => by rw [List.mem_singleton.mp hx]; exact L.imm⟩) fun cdv A outer s H E us ds us' d hr ⟨L, W, e, hL, hU, eu, ed⟩ => ?_
  subst e eu ed
  have hr_law_take := hr
  have n0 := hL.n0
  have n1 := hL.n1
  have w1 := hL.w1
  refine ⟨_, (pss_one (ps_ret (pe_callTy (tup_ K) (by rfl) T.tuple_ bt_tuple (pa_cons (pe_lc (own := [("_law_width", 2)]) rfl sc_law_drawn_drawing.nd (pi_range1 (by rfl) T.range_ (pa_cons (pe_op op_sub (pe_callB (len_ K) (by rfl) T.len_ bt_len (pa_cons (pe_ix (ixT_ K) (pe_ix (ixT_ K) (pv 1) pe_int (fun _ _ => rfl)) pe_int (fun _ _ => rfl)) pa_nil)) pe_int) pa_nil)) (blkOk_by (by rfl)) (fun _ _ _ _ _ => (pg_name (i := 2) sc_law_drawn_drawing.nd rfl (Or.inl rfl))) (fun _ _ _ _ _ => pts_nil) (fun _ _ _ _ _ => (pe_has h_law_take hr_law_take (by rfl) (pa_cons (pv 0) (pa_cons (pe_callB (len_ K) (by rfl) T.len_ bt_len (pa_cons (pe_ix (ixT_ K) (pv 1) pe_int (fun _ _ => rfl)) pa_nil)) pa_nil)) pass0))) pa_nil)))), fun σ Dn u a0 fin => ?_⟩
  have hu : u ∈ [u] := List.mem_singleton.mpr rfl
  have a0 : At true (tups H) H [u] (upd (fun _ => none) u (urnO us)) [some (.adr u), some L.d, none] σ H := a0
  have hsrc : IvP true [some (.adr u), some L.d, none] (iRng1 (tCons (tOp (rI0 fun i j => .int (i - j)) (tCB (rLenQ K) (tCons (tOp (rIxT K) (tOp (rIxT K) (tVar 1) (tC (.int 1))) (tC (.int 0))) tNil)) (tC (.int 1))) tNil)) ((List.range W).map fun (i : Nat) => D.int (i : Int)) :=
    IvP.is (iv_rng1 (n := W) (ea_cons (ev_sub (ev_lenT (ea_cons (ev_ixT (ev_ixT (ev_var rfl) ev_int rfl) ev_int (atI_mapN (g := keyD) (l := L.rows) (i := 0) [] (by omega))) ea_nil)) ev_int) ea_nil) (by rw [List.length_map, hL.len 0 (by omega)]; omega) (by rw [List.length_map, hL.len 0 (by omega)]; omega)) (rng0 _)
  have hlen : ((List.range W).map fun (i : Nat) => D.int (i : Int)).length = W := by simp
  have hz := evx_lc (A := [u]) (tt := tYes) (g := gName 2) (vs := [2]) (te := tCallS (SpU FTake) (fun _ => E0) (tCons (tVar 0) (tCons (tCB (rLenQ K) (tCons (tOp (rIxT K) (tVar 1) (tC (.int 1))) tNil)) tNil))) (fun i => upd (fun _ => none) u (urnO (iterS us L.rows.length i))) (fun i => upd (fun _ => none) u (urnO (iterS us L.rows.length i))) (fun i => [some (.adr u), some L.d, some (.int (i : Nat))]) (fun _ => true) (fun i => .int (takeV (iterS us L.rows.length i) L.rows.length)) (fun i => (List.range i).map fun j => .int (takeV (iterS us L.rows.length j) L.rows.length)) hsrc
    (fun i d hd => by obtain ⟨_, rfl⟩ := rng_items hd; exact gd_1) (fun i hi => EtP.x et_yes) (fun i hi _ => ⟨evx_take hu rfl (ev_many (ev_var (n := 1) rfl)) (by omega) (by omega) ((hU.iter i).up (by rw [hlen] at hi; omega)), by rw [List.range_succ, List.map_append]; rfl⟩) (fun i hi z => nomatch z) rfl (by rw [hlen]; omega)
  rw [hlen] at hz
  refine a0.ev (evx_tupL (eax_cons hz eax_nil)) fun v H1 e1 a1 r1 => ?_
  have e : (D.tup ((List.range W).map fun j => .int (takeV (iterS us L.rows.length j) L.rows.length))) = nats (drawnN us L.rows.length W) := by
    unfold nats drawnN
    rw [List.map_map]
    congr 1
    apply List.map_congr_left
    intro j _
    have := takeV_ok (us := iterS us L.rows.length j) (m := L.rows.length) (by omega)
    show D.int _ = D.int ((((takeV (iterS us L.rows.length j) L.rows.length).toNat : Nat) : Int))
    congr 1
    omega
  rw [e] at r1
  refine fin v H1 a1.same ?_ (a1.immV r1 (nats_imm _))
  rw [a1.own.at hu, upd_same]
end
end SP
set_option Elab.async false
set_option linter.all false
set_option maxRecDepth 100000
set_option maxHeartbeats 1000000
/-! Stillpanes: _law_drawn_limits. -/
namespace SP
open PySem L2 PySem.Spec PyProof.Rows
def gsN (n : Nat) : List (List Nat) := if n = 2 then [[0], [0, 1], [1]] else [[0], [0, 1], [0, 2], [1], [1, 2], [2]]
def gsU (n : Nat) : List (List Nat) := if n = 2 then [[0], [1], [0, 1]] else [[0], [1], [0, 1], [0, 2], [2], [1, 2]]
def toksN (l : List Nat) : List (Int ⊕ List Nat) := PySem.W.keyToks (nats l).py
abbrev leN (a b : List Nat) : Bool := PySem.W.dataLe false D.py (nats a) (nats b)
theorem sorted_of {l m : List (List Nat)} (hp : l.Perm m) (hs : m.Pairwise (fun a b => leN a b = true)) (ha : ∀ a ∈ m, ∀ b ∈ m, leN a b = true → leN b a = true → a = b) : l.mergeSort leN = m := by
  have ht : PySem.W.TotalLe leN := PySem.W.sortLe_total (PyProof.Rows.listOrd PyProof.Rows.itemOrd) false fun a => PySem.W.keyToks (nats a).py
  have h1 := List.pairwise_mergeSort (le := leN) (fun a b c => ht.trans a b c) (fun a b => by rw [Bool.or_eq_true]; exact ht.total a b) l
  have h2 := (List.mergeSort_perm l leN).trans hp
  exact List.Perm.eq_of_pairwise (le := fun a b => leN a b = true) (fun a b h3 h4 => ha a (h2.mem_iff.mp h3) b h4) h1 hs h2
theorem sorted_gs (n : Nat) : (gsU n).mergeSort leN = gsN n := by
  unfold gsU gsN
  by_cases h : n = 2
  · rw [if_pos h, if_pos h]
    exact sorted_of (by decide +kernel) (by decide +kernel) (by decide +kernel)
  · rw [if_neg h, if_neg h]
    exact sorted_of (by decide +kernel) (by decide +kernel) (by decide +kernel)
/-- the urn ahead of the group i; the limits drawn of the first i groups -/
def limS (parts : Int) (us : List Int) : Nat → List Int
  | 0 => us
  | i + 1 => if takeV (limS parts us i) 2 = 0 then takeS (takeS (limS parts us i) 2) (2 * parts + 1) else takeS (limS parts us i) 2
def limO (parts : Int) (us : List Int) (gs : List (List Nat)) : Nat → List (List Nat × Int)
  | 0 => []
  | i + 1 => if takeV (limS parts us i) 2 = 0 then limO parts us gs i ++ [(gs.getD i [], takeV (takeS (limS parts us i) 2) (2 * parts + 1))] else limO parts us gs i
theorem UOk.lims {n parts : Int} {us : List Int} (h : UOk n us) : ∀ i : Nat, UOk (n + 2 * i) (limS parts us i)
  | 0 => h.up (by omega)
  | i + 1 => by
    have h1 := h.lims (parts := parts) i
    rw [limS]
    split
    · exact h1.take.take.up (by omega)
    · exact h1.take.up (by omega)
theorem limO_mem {parts : Int} (hp : 0 < parts) {us : List Int} {gs : List (List Nat)} : ∀ {i : Nat}, i ≤ gs.length → ∀ l ∈ limO parts us gs i, l.1 ∈ gs ∧ 0 ≤ l.2 ∧ l.2 ≤ 2 * parts
  | 0, _, l, h => nomatch h
  | i + 1, hi, l, h => by
    rw [limO] at h
    split at h
    · rcases List.mem_append.mp h with h | h
      · exact limO_mem hp (by omega) l h
      · rw [List.mem_singleton.mp h]
        have ht := takeV_ok (us := takeS (limS parts us i) 2) (m := 2 * parts + 1) (by omega)
        refine ⟨?_, ht.1, by omega⟩
        show gs.getD i [] ∈ gs
        rw [List.getD_eq_getElem?_getD, List.getElem?_eq_getElem (by omega)]
        exact List.getElem_mem (by omega)
    · exact limO_mem hp (by omega) l h
theorem limO_len {parts : Int} {us : List Int} {gs : List (List Nat)} : ∀ i, (limO parts us gs i).length ≤ i
  | 0 => Nat.le_refl _
  | i + 1 => by
    have := limO_len (parts := parts) (us := us) (gs := gs) i
    rw [limO]
    split
    · rw [List.length_append]; simp; omega
    · omega
section
variable {P : Program} {w : World} {K : PySem.W.Frag} {mg : Str → Option Value} {base : Heap}
def FDLims (us : List Int) (ds : List D) (us' : List Int) (d : D) : Prop := ∃ (L : Lay) (W : Nat), ds = [L.d] ∧ L.Ok W ∧ L.rows.length ≤ 3 ∧ UOk 999000 us ∧ us' = limS L.parts us (gsN L.rows.length).length ∧ d = limsD (limO L.parts us (gsN L.rows.length) (gsN L.rows.length).length)
theorem sh_nats {n : Nat} (t : List Nat) : Sh (n + 1) (nats t) := .tup fun d hd => by
  obtain ⟨i, _, rfl⟩ := List.mem_map.mp hd
  exact .int _
theorem alike_nats : ∀ (c d : List Nat), PySem.W.alike (nats c).py (nats d).py = true := fun c d => by
  have h := alike_ints (c.map fun n => ((n : Nat) : Int)) (d.map fun n => ((n : Nat) : Int))
  rw [List.map_map, List.map_map] at h
  unfold nats
  rw [D.py, D.py, PySem.W.alike]
  exact h
theorem gsU_ne (n : Nat) : ∀ g ∈ gsU n, ∃ p r, g = p :: r := by
  intro g hg
  cases g with
  | cons p r => exact ⟨p, r, rfl⟩
  | nil =>
    exfalso
    unfold gsU at hg
    split at hg <;> simp at hg
theorem ev_gs {b : Bool} {ps : Ds} {t : TA} {n : Nat} (h : EaP b ps t [.lst ((gsU n).map nats)]) : EvP b ps (tCB (rSortD K) t) (.lst ((gsN n).map nats)) := by
  have hsh : ∀ d ∈ (gsU n).map nats, Sh 1 d := fun d hd => by
    obtain ⟨g, _, rfl⟩ := List.mem_map.mp hd
    exact sh_nats (n := 0) g
  have key : ∀ x ∈ D.pys ((gsU n).map nats), ∃ g ∈ gsU n, x = (nats g).py := fun x hx => by
    rw [pys_map, List.map_map] at hx
    obtain ⟨g, hg, rfl⟩ := List.mem_map.mp hx
    exact ⟨g, hg, rfl⟩
  refine EvP.is (ev_sort h (Sh.all fun d hd => (hsh d hd).ok).1 (fun x hx y hy => ?_) (.inl fun x hx => ?_) (fun x hx => ?_)) ?_
  · obtain ⟨g, _, rfl⟩ := key x hx
    obtain ⟨g', _, rfl⟩ := key y hy
    exact alike_nats g g'
  · obtain ⟨g, hg, rfl⟩ := key x hx
    obtain ⟨p, r, rfl⟩ := gsU_ne n g hg
    unfold nats
    rw [List.map_cons, D.py, D.pys]
    exact ⟨_, _, rfl⟩
  · obtain ⟨g, hg, rfl⟩ := key x hx
    exact Nat.le_trans (sh_nats (n := 0) g).ok.2.1 (by decide)
  · rw [← sorted_gs n]
    congr 1
    exact (List.map_mergeSort (f := nats) (r := leN) (s := PySem.W.dataLe false D.py) fun a _ b _ => rfl).symm
theorem sc_law_drawn_limits : FnScope ["_law_urn", "_law_layout", "_law_groups", "_law_own"] ["_law_urn", "_law_layout"] (defScope (top 42)) := ⟨rfl, rfl, rfl, by decide +kernel, rfl, by decide +kernel, by decide +kernel⟩
theorem ok_law_drawn_limits (T : Txt mg) (h_law_take : Has P w K mg base "_law_take" ["_law_urn", "_law_below"] 1 (SpU FTake)) {f : Addr} {fd : FuncData} (Fn : Fun K "_law_drawn_limits" "_law_drawn_limits" (top 42) f fd) : FnOk P w K mg base (L2.CX P w) 2 f fd ["_law_urn", "_law_layout"] (SpU FDLims) := by
  refine ok_U (k := 1) Fn sc_law_drawn_limits (fun us ds us' d ⟨L, W, e, _⟩ => by subst e; exact ⟨rfl, fun x hx => by rw [List.mem_singleton.mp hx]; exact L.imm⟩) fun cdv A outer s H E us ds us' d hr ⟨L, W, e, hL, hn3, hU, eu, ed⟩ => ?_
  subst e eu ed
  have hr_law_take := hr
  have hu64 := un_of (n := 64) hr
  have n0 := hL.n0
  have p0 := hL.p0
  have p1 := hL.p1
  refine ⟨_, (pss_cons (ps_set (i := 2) sc_law_drawn_limits.nd rfl (Or.inl rfl) (pe_op op_cat (pe_lst (pa_cons (pe_tup (pa_cons pe_int pa_nil)) (pa_cons (pe_tup (pa_cons pe_int pa_nil)) (pa_cons (pe_tup (pa_cons pe_int (pa_cons pe_int pa_nil))) pa_nil)))) (pe_ifExp (pt_cmpR op_gt (pe_callB (len_ K) (by rfl) T.len_ bt_len (pa_cons (pe_ix (ixT_ K) (pv 1) pe_int (fun _ _ => rfl)) pa_nil)) pe_int (nomark _)) (pe_lst (pa_cons (pe_tup (pa_cons pe_int (pa_cons pe_int pa_nil))) (pa_cons (pe_tup (pa_cons pe_int pa_nil)) (pa_cons (pe_tup (pa_cons pe_int (pa_cons pe_int pa_nil))) pa_nil)))) (pe_lst pa_nil))))
      (pss_one (ps_ret (pe_callTy (tup_ K) (by rfl) T.tuple_ bt_tuple (pa_cons (pe_lc (own := [("_law_own", 3)]) rfl sc_law_drawn_limits.nd (iL_ K (pe_callB (sortD_ K rfl hu64) (by rfl) T.sorted_ bt_sorted (pa_cons (pv 2) pa_nil))) (blkOk_by (by rfl)) (fun _ _ _ _ _ => (pg_name (i := 3) sc_law_drawn_limits.nd rfl (Or.inl rfl))) (fun _ _ _ _ _ => (pts_one (pt_cmpR op_eq (pe_has h_law_take hr_law_take (by rfl) (pa_cons (pv 0) (pa_cons pe_int pa_nil)) pass0) pe_int (nomark _)))) (fun _ _ _ _ _ => (pe_tup (pa_cons (pv 3) (pa_cons (pe_has h_law_take hr_law_take (by rfl) (pa_cons (pv 0) (pa_cons (pe_op op_add (pe_op op_mul pe_int (pe_ix (ixT_ K) (pv 1) pe_int (fun _ _ => rfl))) pe_int) pa_nil)) pass0) pa_nil))))) pa_nil))))), fun σ Dn u a0 fin => ?_⟩
  have hu : u ∈ [u] := List.mem_singleton.mpr rfl
  have a0 : At true (tups H) H [u] (upd (fun _ => none) u (urnO us)) [some (.adr u), some L.d, none, none] σ H := a0
  have one : ∀ {ps : Ds} {i : Int}, EvP true ps (tTup (tCons (tC (.int i)) tNil)) (.tup [.int i]) := fun {ps i} => ev_tup (ea_cons ev_int ea_nil) (by simp)
  have two : ∀ {ps : Ds} {i j : Int}, EvP true ps (tTup (tCons (tC (.int i)) (tCons (tC (.int j)) tNil))) (.tup [.int i, .int j]) := fun {ps i j} => ev_tup (ea_cons ev_int (ea_cons ev_int ea_nil)) (by simp)
  -- the groups
  refine tseq_ (a0.evP (d := .lst ((gsU L.rows.length).map nats)) (EvP.is (ev_catL (es := if 2 < L.rows.length then [nats [0, 2], nats [2], nats [1, 2]] else []) (ev_lst (ea_cons one (ea_cons one (ea_cons two ea_nil))) (by simp)) (ev_if (c := decide (2 < L.rows.length)) (EtP.is (et_test (ev_gt (ev_many (ev_var rfl)) ev_int)) ?_) (fun hc => ?_) fun hc => ?_) ?_) ?_) fun v H1 e1 a1' r1 => ?_)
  · by_cases h : 2 < L.rows.length
    · rw [decide_eq_true h, decide_eq_true (by omega)]
    · rw [decide_eq_false h, decide_eq_false (by omega)]
  · rw [if_pos (by simpa using hc)]
    exact ev_lst (ea_cons two (ea_cons one (ea_cons two ea_nil))) (by simp)
  · rw [if_neg (by simpa using hc)]
    exact ev_lst ea_nil (by simp)
  · split <;> simp
  · unfold gsU
    by_cases h : 2 < L.rows.length
    · rw [if_pos h, if_neg (by omega)]
      rfl
    · rw [if_neg h, if_pos (by omega)]
      rfl
  refine gname_ ?_
  dsimp only
  have a1 : At true (tups H) H [u] (upd (fun _ => none) u (urnO us)) [some (.adr u), some L.d, some (.lst ((gsU L.rows.length).map nats)), none] _ H1 := a1'.set 2 r1
  have hgl : (gsN L.rows.length).length ≤ 6 := by
    unfold gsN
    split <;> simp
  have hlen : ((gsN L.rows.length).map nats).length = (gsN L.rows.length).length := List.length_map ..
  have hgi : ∀ i, i < ((gsN L.rows.length).map nats).length → ((gsN L.rows.length).map nats)[i]? = some (nats ((gsN L.rows.length).getD i [])) := fun i hi => by
    rw [hlen] at hi
    rw [List.getElem?_map, List.getD_eq_getElem?_getD, List.getElem?_eq_getElem hi]
    rfl
  refine a1.ev (evx_tupL (eax_cons (evx_lc (items := (gsN L.rows.length).map nats) (vs := [3]) (fun i => upd (fun _ => none) u (urnO (limS L.parts us i))) (fun i => upd (fun _ => none) u (urnO (takeS (limS L.parts us i) 2))) (fun i => [some (.adr u), some L.d, some (.lst ((gsU L.rows.length).map nats)), some (nats ((gsN L.rows.length).getD i []))]) (fun i => decide (takeV (limS L.parts us i) 2 = 0)) (fun i => limD ((gsN L.rows.length).getD i [], takeV (takeS (limS L.parts us i) 2) (2 * L.parts + 1))) (fun i => (limO L.parts us (gsN L.rows.length) i).map limD)
    (iv_lst (ev_gs (ea_cons (ev_var rfl) ea_nil))) (fun i d hd => ?_) (fun i hi => ?_) (fun i hi hk => ⟨?_, ?_⟩) (fun i hi hk => ⟨?_, ?_⟩) rfl (by omega)) eax_nil)) fun v H2 e2 a2 r2 => ?_
  · have hi := (List.getElem?_eq_some_iff.mp hd).1
    rw [hgi i hi] at hd
    cases hd
    exact gd_1
  · have hi' : i < 6 := by omega
    exact etx_test (evx_eqI (evx_take (m := 2) hu rfl ev_int (by omega) (by omega) ((hU.lims i).up (by omega))) (EvP.x ev_int))
  · have hi' : i < 6 := by omega
    have hk := of_decide_eq_true hk
    have e : limS L.parts us (i + 1) = takeS (takeS (limS L.parts us i) 2) (2 * L.parts + 1) := if_pos hk
    rw [e]
    exact evx_tup (eax_cons (EvP.x (ev_var rfl)) (eax_cons (evx_take (m := 2 * L.parts + 1) hu rfl (ev_add (ev_mul ev_int (ev_ixT (ev_var (n := 1) rfl) ev_int rfl) (cmul_l (by omega) (by omega))) ev_int) (by omega) (by omega) (((hU.lims i).take).up (by omega))) eax_nil)) (by simp)
  · have hk := of_decide_eq_true hk
    have e : limO L.parts us (gsN L.rows.length) (i + 1) = limO L.parts us (gsN L.rows.length) i ++ [((gsN L.rows.length).getD i [], takeV (takeS (limS L.parts us i) 2) (2 * L.parts + 1))] := if_pos hk
    rw [e, List.map_append]
    rfl
  · have hk := of_decide_eq_false hk
    have e : limS L.parts us (i + 1) = takeS (limS L.parts us i) 2 := if_neg hk
    rw [e]
  · have hk := of_decide_eq_false hk
    have e : limO L.parts us (gsN L.rows.length) (i + 1) = limO L.parts us (gsN L.rows.length) i := if_neg hk
    rw [e]
  · rw [hlen] at a2 r2
    refine fin v H2 a2.same ?_ (a2.immV r2 (limsD_imm _))
    rw [a2.own.at hu, upd_same]
end
end SP
set_option Elab.async false
set_option linter.all false
set_option maxRecDepth 100000
set_option maxHeartbeats 2000000
/-! Stillpanes: _law_drawn_layout. -/
namespace SP
open PySem L2 PySem.Spec PyProof.Rows
def moreN (us : List Int) (n : Nat) : Nat → List Int
  | 0 => List.replicate n 0
  | k + 1 => moreZ (moreN us n k) (takeV (iterS us n k) n).toNat
def growR (rows : List (List Int)) (more : List Int) : List (List Int) := (List.range rows.length).map fun k => rows.getD k [] ++ [(rows.getD k []).getLastD 0 + more.getD k 0]
def layU (parts n : Nat) (us : List Int) : Nat → List Int
  | 0 => us
  | w + 1 => iterS (layU parts n us w) n parts
def layR (parts n : Nat) (us : List Int) : Nat → List (List Int)
  | 0 => List.replicate n [0]
  | w + 1 => growR (layR parts n us w) (moreN (layU parts n us w) n parts)
def partsN (us : List Int) : Nat := (2 + takeV us 3).toNat
def panesN (us : List Int) : Nat := (2 + takeV (takeS us 3) 2).toNat
def widN (us : List Int) : Nat := (2 + takeV (takeS (takeS us 3) 2) 3).toNat
def us3 (us : List Int) : List Int := takeS (takeS (takeS us 3) 2) 3
def drawnL (us : List Int) : Lay := ⟨partsN us, layR (partsN us) (panesN us) (us3 us) (widN us)⟩
def drawnU (us : List Int) : List Int := layU (partsN us) (panesN us) (us3 us) (widN us)
theorem moreN_len {us : List Int} {n : Nat} : ∀ k, (moreN us n k).length = n
  | 0 => by simp [moreN]
  | k + 1 => by rw [moreN, moreZ_len, moreN_len k]
theorem layR_len {parts n : Nat} {us : List Int} : ∀ w, (layR parts n us w).length = n
  | 0 => by simp [layR]
  | w + 1 => by rw [layR, growR, List.length_map, List.length_range, layR_len w]
theorem layR_row {parts n : Nat} {us : List Int} : ∀ (w k : Nat), k < n → ((layR parts n us w).getD k []).length = w + 1 ∧ ((layR parts n us w).getD k []).getD 0 1 = 0
  | 0, k, hk => by
    rw [layR, List.getD_eq_getElem?_getD, List.getElem?_replicate, if_pos hk]
    exact ⟨rfl, rfl⟩
  | w + 1, k, hk => by
    obtain ⟨h1, h2⟩ := layR_row (parts := parts) (us := us) w k hk
    have e : (layR parts n us (w + 1)).getD k [] = (layR parts n us w).getD k [] ++ [((layR parts n us w).getD k []).getLastD 0 + (moreN (layU parts n us w) n parts).getD k 0] := by
      rw [layR, growR, List.getD_eq_getElem?_getD, List.getElem?_map, List.getElem?_range (by rw [layR_len]; exact hk)]
      rfl
    rw [e]
    refine ⟨by rw [List.length_append, h1]; rfl, ?_⟩
    rw [List.getD_eq_getElem?_getD, List.getElem?_append_left (by omega), ← List.getD_eq_getElem?_getD]
    exact h2
theorem layU_ok {parts n : Nat} {us : List Int} {m : Int} (h : UOk m us) : ∀ w : Nat, UOk (m + w * parts) (layU parts n us w)
  | 0 => h.up (by simp)
  | w + 1 => ((layU_ok h w).iter (m := n) parts).up (by
      have : ((w + 1 : Nat) : Int) * parts = w * parts + parts := by rw [Int.natCast_add, Int.add_mul]; simp
      omega)
section
variable {A : List Addr} {C C' : Hp} {b : Bool} {ps : Ds} {G0 H0 H : Hp} {σ : L2.St}
theorem At.ea (a : At b G0 H0 A C ps σ H) {ta : TA} {ds : List D} {Q : List V → Hp → Prop} (h : EaX A C b ps ta ds C') (k : ∀ vs H', SameX A H H' → At b G0 H0 A C' ps σ H' → RL b (Gx A G0 H0 H') vs ds → Q vs H') : ta σ H Q :=
  h σ H _ a.gsub gx_out a.own a.sl Q fun v H2 e w r => k v H2 e (a.mono e w) (r.same (gx_grow a.sub a.out a.same a.own e w))
theorem At.newRep (a : At b G0 H0 A C ps σ H) {n : Nat} {ta tb : TE} {Q : VK} (ha : EvP b ps ta (.lst [.int 0])) (hb : EvP b ps tb (.int (n : Nat))) (hn : n ≤ 1000)
    (k : ∀ p H1, Same H H1 → H1 p = none → p ∉ A → H0 p = none → At b G0 H0 (p :: A) (upd C p (urnO (List.replicate n 0))) ps σ (upd H1 p (urnO (List.replicate n 0))) → Sub (Gx A G0 H0 H) (Gx (p :: A) G0 H0 (upd H1 p (urnO (List.replicate n 0)))) → Q (.ref p) (upd H1 p (urnO (List.replicate n 0)))) : tOp rRep ta tb σ H Q := by
    unfold tOp
    refine a.evP ha fun x H1 e1 a1 r1 => a1.evP hb fun y H2 e2 a2 r2 => ?_
    obtain ⟨l, xs, rfl, el, rl⟩ := R.lst_ r1
    obtain ⟨v0, rfl, r0⟩ := rl.one_
    cases r0.int_
    refine ⟨l, (n : Int), [.int 0], rfl, r2.int_, e2 _ _ (a1.gsub _ _ el), by omega, by omega, sz_of (by show [V.int 0].length * (n : Int).toNat ≤ 100000; simp; omega), fun p hp => ?_⟩
    have e : (List.replicate (n : Int).toNat [V.int 0]).flatten = (List.replicate n (0 : Int)).map V.int := by
      show (List.replicate n [V.int 0]).flatten = _
      rw [List.map_replicate]
      induction n with
      | zero => rfl
      | succ n ih =>
        rw [List.replicate_succ, List.flatten_cons, List.replicate_succ]
        have : ∀ m, (List.replicate m [V.int 0]).flatten = List.replicate m (V.int 0) := fun m => by
          induction m with
          | zero => rfl
          | succ m ih => rw [List.replicate_succ, List.flatten_cons, List.replicate_succ, ih]; rfl
        rw [this]
        rfl
    rw [e]
    obtain ⟨a3, h1, h2⟩ := a2.own_ (o := urnO (List.replicate n 0)) hp trivial
    exact k p H2 (e1.trans e2) hp h1 h2 a3 (fun c o h => gx_own a2.gsub hp _ _ ((a.up ((SameX.of e1).trans (.of e2)) a2.own) _ _ h))
end
section
variable {P : Program} {w : World} {K : PySem.W.Frag} {mg : Str → Option Value} {base : Heap}
def FLay (us : List Int) (ds : List D) (us' : List Int) (d : D) : Prop := ds = [] ∧ UOk 900000 us ∧ us' = drawnU us ∧ d = (drawnL us).d
theorem sc_law_drawn_layout : FnScope ["_law_urn", "_law_parts", "_law_panes", "_law_rows", "_law_width", "_law_more", "_law_lap", "_law_pane", "_law_own"] ["_law_urn"] (defScope (top 41)) := ⟨rfl, rfl, rfl, by decide +kernel, rfl, by decide +kernel, by decide +kernel⟩
theorem ok_law_drawn_layout (T : Txt mg) (h_law_take : Has P w K mg base "_law_take" ["_law_urn", "_law_below"] 1 (SpU FTake)) {f : Addr} {fd : FuncData} (Fn : Fun K "_law_drawn_layout" "_law_drawn_layout" (top 41) f fd) : FnOk P w K mg base (L2.CX P w) 2 f fd ["_law_urn"] (SpU FLay) := by
  refine ok_U (k := 1) Fn sc_law_drawn_layout (fun us ds us' d ⟨e, _⟩ => by subst e; exact ⟨rfl, fun x hx => nomatch hx⟩) fun cdv A outer s H E us ds us' d hr ⟨e, hU, eu, ed⟩ => ?_
  subst e eu ed
  have hr_law_take := hr
  have hu1 := un_of (n := 1) hr
  have t1 := takeV_ok (us := us) (m := 3) (by omega)
  have t2 := takeV_ok (us := takeS us 3) (m := 2) (by omega)
  have t3 := takeV_ok (us := takeS (takeS us 3) 2) (m := 3) (by omega)
  have hU3 : UOk 900003 (us3 us) := hU.take.take.take.up (by omega)
  obtain ⟨parts, hparts⟩ : ∃ parts, parts = partsN us := ⟨_, rfl⟩
  obtain ⟨n, hn⟩ : ∃ n, n = panesN us := ⟨_, rfl⟩
  obtain ⟨W, hW⟩ : ∃ W, W = widN us := ⟨_, rfl⟩
  have hp0 : (parts : Int) = 2 + takeV us 3 := by rw [hparts]; unfold partsN; omega
  have hn0 : (n : Int) = 2 + takeV (takeS us 3) 2 := by rw [hn]; unfold panesN; omega
  have hW0 : (W : Int) = 2 + takeV (takeS (takeS us 3) 2) 3 := by rw [hW]; unfold widN; omega
  have hd : (drawnL us).d = .tup [.int parts, .tup ((layR parts n (us3 us) W).map keyD)] := by
    rw [hparts, hn, hW]
    rfl
  have hdu : drawnU us = layU parts n (us3 us) W := by
    rw [hparts, hn, hW]
    rfl
  refine ⟨_, (pss_cons (ps_par (i := 1) (j := 2) rfl sc_law_drawn_layout.nd rfl rfl (by decide) rfl rfl (pa_cons (pe_op op_add pe_int (pe_has h_law_take hr_law_take (by rfl) (pa_cons (pv 0) (pa_cons pe_int pa_nil)) pass0)) (pa_cons (pe_op op_add pe_int (pe_has h_law_take hr_law_take (by rfl) (pa_cons (pv 0) (pa_cons pe_int pa_nil)) pass0)) pa_nil)) rfl)
      (pss_cons (ps_setLc (i := 3) (own := [("_law_pane", 7)]) rfl sc_law_drawn_layout.nd rfl rfl (sw_true rfl rfl rfl (by decide +kernel)) (pi_range1 (by rfl) T.range_ (pa_cons (pv 2) pa_nil)) (blkOk_by (by rfl)) (fun _ _ _ _ _ => (pg_name (i := 7) sc_law_drawn_layout.nd rfl (Or.inl rfl))) (fun _ _ _ _ _ => pts_nil) (fun _ _ _ _ _ => (pe_lst (pa_cons pe_int pa_nil))))
      (pss_cons (ps_for (passes_of rfl) rfl (pi_range1 (by rfl) T.range_ (pa_cons (pe_op op_add pe_int (pe_has h_law_take hr_law_take (by rfl) (pa_cons (pv 0) (pa_cons pe_int pa_nil)) pass0)) pa_nil)) (pg_name (i := 4) sc_law_drawn_layout.nd rfl (Or.inl rfl))
      (pss_cons (ps_set (i := 5) sc_law_drawn_layout.nd rfl (Or.inl rfl) (pe_op op_rep (pe_lst (pa_cons pe_int pa_nil)) (pv 2)))
      (pss_cons (ps_for (passes_of rfl) rfl (pi_range1 (by rfl) T.range_ (pa_cons (pv 1) pa_nil)) (pg_name (i := 6) sc_law_drawn_layout.nd rfl (Or.inl rfl))
      (pss_cons (ps_set (i := 7) sc_law_drawn_layout.nd rfl (Or.inl rfl) (pe_has h_law_take hr_law_take (by rfl) (pa_cons (pv 0) (pa_cons (pv 2) pa_nil)) pass0))
      (pss_one (ps_asg (pe_op op_add (pe_ix (ixL_ K) (pv 5) (pv 7) (fun _ _ => rfl)) pe_int) (pg_sub (pv 5) (pv 7) set_list)))))
      (pss_one (ps_for (passes_of rfl) rfl (pi_range1 (by rfl) T.range_ (pa_cons (pv 2) pa_nil)) (pg_name (i := 7) sc_law_drawn_layout.nd rfl (Or.inl rfl))
      (pss_one (ps_expr (pe_bm PySem.F.plainAttrs_list PySem.F.slot_list_append PySem.F.type_list_append mt_append (pe_ix (ixL_ K) (pv 3) (pv 7) (fun _ _ => rfl)) (pa_cons (pe_op op_add (pe_ix (ixL_ K) (pe_ix (ixL_ K) (pv 3) (pv 7) (fun _ _ => rfl)) (pe_un un_neg pe_int) (fun _ _ => rfl)) (pe_ix (ixL_ K) (pv 5) (pv 7) (fun _ _ => rfl))) pa_nil)))))))))
      (pss_one (ps_ret (pe_tup (pa_cons (pv 1) (pa_cons (pe_callTy (tup_ K) (by rfl) T.tuple_ bt_tuple (pa_cons (pe_lc (own := [("_law_own", 8)]) rfl sc_law_drawn_layout.nd (iL_ K (pv 3)) (blkOk_by (by rfl)) (fun _ _ _ _ _ => (pg_name (i := 8) sc_law_drawn_layout.nd rfl (Or.inl rfl))) (fun _ _ _ _ _ => pts_nil) (fun _ _ _ _ _ => (pe_callTy (tup_ K) (by rfl) T.tuple_ bt_tuple (pa_cons (pv 8) pa_nil)))) pa_nil)) pa_nil)))))))), fun σ Dn u a0 fin => ?_⟩
  rw [hd, hdu] at fin
  have hu : u ∈ [u] := List.mem_singleton.mpr rfl
  have a0 : At true (tups H) H [u] (upd (fun _ => none) u (urnO us)) [some (.adr u), none, none, none, none, none, none, none, none] σ H := a0
  -- parts, panes
  refine tseq_ (a0.ea (eax_cons (evx_add (EvP.x ev_int) (evx_take (m := 3) hu rfl ev_int (by omega) (by omega) (hU.up (by omega)))) (eax_cons (evx_add (EvP.x ev_int) (evx_take (m := 2) hu rfl ev_int (by omega) (by omega) (hU.take.up (by omega)))) eax_nil)) fun vs H1 e1 a1' r1 => ?_)
  obtain ⟨v1, v2, rfl, q1, q2⟩ := r1.two_
  refine ⟨v1, v2, rfl, ?_⟩
  dsimp only
  rw [← hp0] at q1
  rw [← hn0] at q2
  have a1 : At true (tups H) H [u] (upd (fun _ => none) u (urnO (takeS (takeS us 3) 2))) [some (.adr u), some (.int parts), some (.int n), none, none, none, none, none, none] _ H1 := (a1'.set 1 q1).set 2 q2
  -- rows
  refine tseq_ (a1.newRows (n := n) (i := 0) (ea_cons (ev_var (n := 2) rfl) ea_nil) (by omega) fun q rs H2 e2 hrl hrn hr0 hqu hqr hq0 a2' rq2 => ?_)
  refine gname_ ?_
  dsimp only
  have a2 : At true (tups H) H (rs ++ [u]) (ups (upd (fun _ => none) u (urnO (takeS (takeS us 3) 2))) rs (.lst [.int 0])) [some (.adr u), some (.int parts), some (.int n), some (.adr q), none, none, none, none, none] _ H2 := a2'.set 3 (.adr q)
  have huA : u ∈ rs ++ [u] := List.mem_append_right _ hu
  have hur : u ∉ rs := fun m => (hr0 u m).1 hu
  have hra : ∀ k, k < n → rs.getD k 0 ∈ rs := fun k hk => by
    rw [List.getD_eq_getElem?_getD, List.getElem?_eq_getElem (by omega)]
    exact List.getElem_mem (by omega)
  have hrA : ∀ k, k < n → rs.getD k 0 ∈ rs ++ [u] := fun k hk => List.mem_append_left _ (hra k hk)
  have hrne : ∀ j k, j < n → k < n → j ≠ k → rs.getD j 0 ≠ rs.getD k 0 := fun j k hj hk hne z => by
    rw [List.getD_eq_getElem?_getD, List.getD_eq_getElem?_getD, List.getElem?_eq_getElem (by omega), List.getElem?_eq_getElem (by omega)] at z
    rcases Nat.lt_or_gt_of_ne hne with h | h
    · exact List.pairwise_iff_getElem.mp hrn j k (by omega) (by omega) h z
    · exact List.pairwise_iff_getElem.mp hrn k j (by omega) (by omega) h z.symm
  have hru : ∀ k, k < n → rs.getD k 0 ≠ u := fun k hk z => hur (by rw [← z]; exact hra k hk)
  have him : ∀ {x4 x5 x6 x7 : Option D}, (∀ d, x4 = some d → Imm d) → (∀ d, x5 = some d → Imm d) → (∀ d, x6 = some d → Imm d) → (∀ d, x7 = some d → Imm d) → AllImm [some (.adr u), some (.int (parts : Int)), some (.int (n : Int)), some (.adr q), x4, x5, x6, x7, none] := fun {x4 x5 x6 x7} h4 h5 h6 h7 i d e => by
    match i, e with
    | 0, e => cases e; exact .adr u
    | 1, e => cases e; exact .int _
    | 2, e => cases e; exact .int _
    | 3, e => cases e; exact .adr q
    | 4, e => exact h4 d (by simpa using e)
    | 5, e => exact h5 d (by simpa using e)
    | 6, e => exact h6 d (by simpa using e)
    | 7, e => exact h7 d (by simpa using e)
    | 8, e => cases e
    | i + 9, e => simp at e
  -- for width in range(2 + take(urn, 3))
  have hcu : (ups (upd (fun _ => none) u (urnO (takeS (takeS us 3) 2))) rs (.lst [.int 0])) u = some (urnO (takeS (takeS us 3) 2)) := by rw [ups_out hur, upd_same]
  refine tseq_ (a2.ea (eax_cons (evx_add (EvP.x ev_int) ((evx_callU (F := FTake) (st := takeS (takeS us 3) 2) huA hcu (ea_cons (ev_var rfl) (ea_cons ev_int ea_nil)) ⟨3, rfl, by omega, by omega, hU.take.take.up (by omega), rfl, rfl⟩))) eax_nil) fun vs H3 e3 a3 r3 => ?_)
  obtain ⟨v3, rfl, q3⟩ := r3.one_
  rw [← hW0] at q3
  refine ⟨W, by rw [q3.int_], by omega, by omega, ?_⟩
  have rq3 := rq2.same (a2'.up e3 a3.own)
  have h0row : ∀ k, k < n → (ups (upd (fun _ => none) u (urnO (takeS (takeS us 3) 2))) rs (.lst [.int 0])) (rs.getD k 0) = some (urnO ((layR parts n (us3 us) 0).getD k [])) := fun k hk => by
    rw [ups_in (hra k hk), layR, List.getD_eq_getElem?_getD, List.getElem?_replicate, if_pos hk]
    rfl
  have loop := fun Dn tb => a3.forV (Dn := Dn) (tb := tb) (g := gName 4) (wi := fun σ H R => R (Itr 0 (W : Int).toNat) H) (items := (List.range W).map fun i => .int (0 + (i : Nat))) (fun i G C ps => C u = some (urnO (layU parts n (us3 us) i)) ∧ (∀ k, k < n → C (rs.getD k 0) = some (urnO ((layR parts n (us3 us) i).getD k []))) ∧ R true G (.ref q) (.lst (rs.map .adr)) ∧ ps = [some (.adr u), some (.int parts), some (.int n), some (.adr q), none, none, none, none, none])
    (fun i G G' C ps ⟨h1, h2, h3, h4⟩ s => ⟨h1, h2, h3.same s, h4⟩) (fun Rr hR => hR _ H3 (Same.refl _) iv_rng) ⟨upd_same, fun k hk => by rw [upd_ne (hru k hk)]; exact h0row k hk, rq3, rfl⟩
  refine loop _ _ (fun H4 i dd σ' H' v' C' ps' f1 hdd f2 a4 ⟨c1, c2, hS, hps⟩ r4 => ?_) fun σ' H' C' ps' f1 a4 ⟨c1, c2, hS, hps⟩ => ?_
  · -- a width's turn
    subst hps
    have hi : i < W := by
      have := (List.getElem?_eq_some_iff.mp hdd).1
      simpa using this
    have hUi : UOk 910000 (layU parts n (us3 us) i) := (layU_ok hU3 i).up (by
      have : (i : Int) * parts ≤ 5 * 5 := Int.mul_le_mul (by omega) (by omega) (by omega) (by omega)
      omega)
    refine a4.gd gd_1 r4 fun σ2 a5' => ?_
    obtain ⟨wd, hwd⟩ : ∃ wd : Int, dd = .int wd := by
      rw [List.getElem?_map, List.getElem?_range hi] at hdd
      exact ⟨_, (Option.some.inj hdd).symm⟩
    subst hwd
    have a5 : At true (tups H) H (rs ++ [u]) C' [some (.adr u), some (.int parts), some (.int n), some (.adr q), some (.int wd), none, none, none, none] σ2 H' := a5'
    -- more = [0] * panes
    refine tseq_ (a5.newRep (n := n) (ev_lst (ea_cons ev_int ea_nil) (by simp)) (ev_var (n := 2) rfl) (by omega) fun m H5 e5 hm5 hmA hm0 a6' up6 => ?_)
    refine gname_ ?_
    dsimp only
    have a6 : At true (tups H) H (m :: (rs ++ [u])) (upd C' m (urnO (List.replicate n 0))) [some (.adr u), some (.int parts), some (.int n), some (.adr q), some (.int wd), some (.adr m), none, none, none] _ _ := a6'.set 5 (.adr m)
    have hS6 : R true (Gx (m :: (rs ++ [u])) (tups H) H (upd H5 m (urnO (List.replicate n 0)))) (.ref q) (.lst (rs.map .adr)) := hS.same ((a5.up (.of (Same.refl _)) a5.own).trans up6)
    have hmu : m ≠ u := fun z => hmA (by rw [z]; exact huA)
    have hmr : ∀ k, k < n → rs.getD k 0 ≠ m := fun k hk z => hmA (by rw [← z]; exact hrA k hk)
    have hmm : m ∈ m :: (rs ++ [u]) := List.mem_cons_self ..
    have humm : u ∈ m :: (rs ++ [u]) := List.mem_cons_of_mem _ huA
    have hrmm : ∀ k, k < n → rs.getD k 0 ∈ m :: (rs ++ [u]) := fun k hk => List.mem_cons_of_mem _ (hrA k hk)
    -- for lap in range(parts)
    refine tseq_ (a6.forG (items := (List.range parts).map fun (k : Nat) => D.int (k : Int)) (fun k G C ps => C u = some (urnO (iterS (layU parts n (us3 us) i) n k)) ∧ C m = some (urnO (moreN (layU parts n (us3 us) i) n k)) ∧ (∀ j, j < n → C (rs.getD j 0) = some (urnO ((layR parts n (us3 us) i).getD j []))) ∧ R true G (.ref q) (.lst (rs.map .adr)) ∧ ps = [some (.adr u), some (.int parts), some (.int n), some (.adr q), some (.int wd), some (.adr m), none, none, none])
      (fun i G G' C ps ⟨h1, h2, h3, h4, h5⟩ s => ⟨h1, h2, h3, h4.same s, h5⟩) (IvP.is (iv_rng1 (n := parts) (ea_cons (ev_var (n := 1) rfl) ea_nil) rfl (by omega)) (rng0 _)) ⟨by rw [upd_ne hmu.symm]; exact c1, upd_same, fun j hj => by rw [upd_ne (hmr j hj)]; exact c2 j hj, hS6, rfl⟩ (fun H6 k dk σ3 H7 v7 C2 ps2 f3 hdk f4 a7 ⟨d1, d2, d3, hS7, hps⟩ r7 => ?_) fun σ3 H7 C2 ps2 f3 a7 ⟨d1, d2, d3, hS7, hps⟩ => ?_)
    · subst hps
      obtain ⟨hk, rfl⟩ := rng_items hdk
      refine a7.gd gd_1 r7 fun σ4 a8' => ?_
      have a8 : At true (tups H) H (m :: (rs ++ [u])) C2 [some (.adr u), some (.int parts), some (.int n), some (.adr q), some (.int wd), some (.adr m), some (.int (k : Nat)), none, none] σ4 H7 := a8'
      have hUk : UOk 1000000 (iterS (layU parts n (us3 us) i) n k) := (hUi.iter k).up (by omega)
      have tk := takeV_ok (us := iterS (layU parts n (us3 us) i) n k) (m := n) (by omega)
      refine tseq_ (a8.ev (evx_callU (F := FTake) (st := iterS (layU parts n (us3 us) i) n k) humm d1 (ea_cons (ev_var rfl) (ea_cons (ev_var (n := 2) rfl) ea_nil)) ⟨n, rfl, by omega, by omega, hUk, rfl, rfl⟩) fun v8 H8 e8 a9' r8 => ?_)
      refine gname_ ?_
      dsimp only
      obtain ⟨p, hp⟩ : ∃ p : Nat, takeV (iterS (layU parts n (us3 us) i) n k) n = p := ⟨(takeV (iterS (layU parts n (us3 us) i) n k) n).toNat, by omega⟩
      rw [hp] at r8 tk
      have hpn : p < n := by omega
      have a9 : At true (tups H) H (m :: (rs ++ [u])) _ [some (.adr u), some (.int parts), some (.int n), some (.adr q), some (.int wd), some (.adr m), some (.int (k : Nat)), some (.int (p : Nat)), none] _ H8 := a9'.set 7 r8
      have hS8 := hS7.same (a8.up e8 a9'.own)
      refine a9.setO (j := 5) (i := p) (u := m) (st := moreN (layU parts n (us3 us) i) n k) rfl hmm (by rw [upd_ne hmu]; exact d2) (ev_add (ev_ixL (ev_var (n := 5) rfl) (ev_var (n := 7) rfl) (atI_mapN (g := D.int) 0 (by rw [moreN_len]; exact hpn))) ev_int) (ev_var (n := 7) rfl) (ixN_nat (by rw [moreN_len]; exact hpn)) fun H9 e9 a10 => ?_
      refine ⟨(f4.trans e8).trans e9, _, _, a10.fgt [6, 7] rfl, by rw [upd_ne hmu.symm, upd_same]; rfl, ?_, fun j hj => by rw [upd_ne (hmr j hj), upd_ne (hru j hj)]; exact d3 j hj, hS8.same (a9.up e9 a10.own), rfl⟩
      rw [upd_same, moreN, hp]
      rfl
    · -- for pane in range(panes)
      subst hps
      rw [List.length_map, List.length_range] at d1 d2
      have hmore : ∀ k, k < n → atI ((moreN (layU parts n (us3 us) i) n parts).map V.int) (k : Int) = some (.int ((moreN (layU parts n (us3 us) i) n parts).getD k 0)) := fun k hk => atI_nat (by rw [List.getElem?_map, List.getD_eq_getElem?_getD, List.getElem?_eq_getElem (by rw [moreN_len]; exact hk)]; rfl)
      refine a7.forG (items := (List.range n).map fun (k : Nat) => D.int (k : Int)) (fun k G C ps => C u = some (urnO (iterS (layU parts n (us3 us) i) n parts)) ∧ C m = some (urnO (moreN (layU parts n (us3 us) i) n parts)) ∧ (∀ j, j < n → C (rs.getD j 0) = some (urnO (if j < k then (layR parts n (us3 us) (i + 1)).getD j [] else (layR parts n (us3 us) i).getD j []))) ∧ R true G (.ref q) (.lst (rs.map .adr)) ∧ ps = [some (.adr u), some (.int parts), some (.int n), some (.adr q), some (.int wd), some (.adr m), none, none, none])
        (fun i G G' C ps ⟨h1, h2, h3, h4, h5⟩ s => ⟨h1, h2, h3, h4.same s, h5⟩) (IvP.is (iv_rng1 (n := n) (ea_cons (ev_var (n := 2) rfl) ea_nil) rfl (by omega)) (rng0 _)) ⟨d1, d2, fun j hj => by rw [if_neg (by omega)]; exact d3 j hj, hS7, rfl⟩ (fun H8 k dk σ4 H9 v9 C3 ps3 f5 hdk f6 a8 ⟨g1, g2, g3, hS9, hps⟩ r9 => ?_) fun σ4 H9 C3 ps3 f5 a8 ⟨g1, g2, g3, hS9, hps⟩ => ?_
      · subst hps
        obtain ⟨hk, rfl⟩ := rng_items hdk
        refine a8.gd gd_1 r9 fun σ5 a9' => ?_
        have a9 : At true (tups H) H (m :: (rs ++ [u])) C3 [some (.adr u), some (.int parts), some (.int n), some (.adr q), some (.int wd), some (.adr m), none, some (.int (k : Nat)), none] σ5 H9 := a9'
        obtain ⟨v3, ev3, rv3⟩ := a9.sl.2 3 _ rfl
        cases rv3.adr_
        have hgk := g3 k hk
        rw [if_neg (by omega)] at hgk
        obtain ⟨hl1, _⟩ := layR_row (parts := parts) (us := us3 us) i k hk
        have hlast : atI (((layR parts n (us3 us) i).getD k []).map V.int) (-1) = some (.int (((layR parts n (us3 us) i).getD k []).getLastD 0)) := by
          obtain ⟨l', z, hz⟩ : ∃ l z, (layR parts n (us3 us) i).getD k [] = l ++ [z] := ⟨_, _, (List.dropLast_concat_getLast (fun z => by rw [z] at hl1; simp at hl1)).symm⟩
          rw [hz, List.map_append]
          show atI (l'.map V.int ++ [V.int z]) (-1) = _
          rw [atI_last]
          simp
        have hix : atI (rs.map D.adr) (k : Int) = some (.adr (rs.getD k 0)) := atI_mapN (g := D.adr) 0 (by omega)
        refine (a9.recall (j := 3) rfl hS9).appendX (p := rs.getD k 0) (hrmm k hk) hgk (by rw [List.length_map, hl1]; omega) (ev_ixL (ev_var (n := 3) rfl) (ev_var (n := 7) rfl) hix) (evx_add (evx_ixO (hrmm k hk) hgk (ev_ixL (ev_var (n := 3) rfl) (ev_var (n := 7) rfl) hix) (ev_neg ev_int) hlast) (evx_ixO hmm g2 (ev_var (n := 5) rfl) (ev_var (n := 7) rfl) (hmore k hk))) hgk fun v10 H10 e10 a10 r10 => ?_
        refine ⟨f6.trans e10, _, _, (a10.toAdr ev3).fgt [7] rfl, by rw [upd_ne (hru k hk).symm]; exact g1, by rw [upd_ne (hmr k hk).symm]; exact g2, fun j hj => ?_, hS9.same (a9.up e10 a10.own), rfl⟩
        by_cases hjk : j = k
        · subst hjk
          have eg : (layR parts n (us3 us) (i + 1)).getD j [] = (layR parts n (us3 us) i).getD j [] ++ [((layR parts n (us3 us) i).getD j []).getLastD 0 + (moreN (layU parts n (us3 us) i) n parts).getD j 0] := by
            rw [layR, growR, List.getD_eq_getElem?_getD, List.getElem?_map, List.getElem?_range (by rw [layR_len]; exact hj)]
            rfl
          rw [upd_same, if_pos (by omega), r10.int_, eg]
          unfold urnO
          rw [List.map_append]
          rfl
        · rw [upd_ne (hrne j k hj hk hjk), g3 j hj]
          by_cases hlt : j < k
          · rw [if_pos hlt, if_pos (by omega)]
          · rw [if_neg hlt, if_neg (by omega)]
      · -- the end of the turn
        subst hps
        rw [List.length_map, List.length_range] at g3
        obtain ⟨b0, up0, _⟩ := a8.rel hmA hm0
        have hmH4 : H4 m = none := by
          cases e : H4 m with
          | none => rfl
          | some o =>
            have := e5 _ _ (f2 m o hmA e)
            rw [this] at hm5; cases hm5
        have ftot : SameX (m :: (rs ++ [u])) H4 H9 := (((sameX_more f2).trans (SameX.of (e5.trans (same_upd hm5)))).trans f3).trans f5
        exact ⟨sameX_drop ftot hmH4, _, _, b0.fgt [4, 5] rfl, g1, fun k hk => by rw [g3 k hk, if_pos hk], hS9.same up0, rfl⟩
  · -- return
    subst hps
    rw [List.length_map, List.length_range] at c1 c2
    have hix : ∀ k d, (rs.map D.adr)[k]? = some d → k < n ∧ d = .adr (rs.getD k 0) := fun k d hk => by
      have hkn := (List.getElem?_eq_some_iff.mp hk).1
      rw [List.length_map] at hkn
      rw [List.getElem?_map, List.getElem?_eq_getElem hkn] at hk
      refine ⟨by omega, ?_⟩
      rw [List.getD_eq_getElem?_getD, List.getElem?_eq_getElem hkn]
      exact (Option.some.inj hk).symm
    have hout : ∀ k, k ≤ n → ((layR parts n (us3 us) W).take (k + 1)).map keyD = ((layR parts n (us3 us) W).take k).map keyD ++ (if k < n then [keyD ((layR parts n (us3 us) W).getD k [])] else []) := fun k hk => by
      by_cases h : k < n
      · rw [if_pos h, List.take_add_one, List.getElem?_eq_getElem (by rw [layR_len]; exact h), List.map_append, List.getD_eq_getElem?_getD, List.getElem?_eq_getElem (by rw [layR_len]; exact h)]
        rfl
      · rw [if_neg h, List.append_nil, List.take_of_length_le (by rw [layR_len]; omega), List.take_of_length_le (by rw [layR_len]; omega)]
    have hlen : (rs.map D.adr).length = n := by rw [List.length_map, hrl]
    obtain ⟨v3, ev3, rv3⟩ := a4.sl.2 3 _ rfl
    cases rv3.adr_
    refine (a4.recall (j := 3) rfl hS).ev (evx_tup (eax_cons (EvP.x (ev_var (n := 1) rfl)) (eax_cons (evx_tupL (eax_cons (evx_lc (items := rs.map D.adr) (vs := [8]) (fun _ => C') (fun _ => C') (fun k => [some (.adr u), some (.int parts), some (.int n), some (.lst (rs.map .adr)), none, none, none, none, some (.adr (rs.getD k 0))]) (fun _ => true) (fun k => keyD ((layR parts n (us3 us) W).getD k [])) (fun k => ((layR parts n (us3 us) W).take k).map keyD)
      (iv_lst (ev_var (n := 3) rfl)) (fun k d hd => ?_) (fun k hk => EtP.x et_yes) (fun k hk _ => ⟨?_, ?_⟩) (fun k hk z => nomatch z) rfl (by rw [hlen]; omega)) eax_nil)) eax_nil)) (by simp)) fun v H5 e5 a5 r5 => ?_
    · obtain ⟨_, rfl⟩ := hix k d hd
      exact gd_1
    · rw [hlen] at hk
      exact evx_tupO (hrA k hk) (c2 k hk) (ea_cons (ev_var (n := 8) rfl) ea_nil) fun G => rl_ints _
    · rw [hlen] at hk
      rw [hout k (by omega), if_pos hk]
    · rw [hlen, List.take_of_length_le (by rw [layR_len]; exact Nat.le_refl _)] at r5
      have hrs0 : ∀ r ∈ rs, H r = none := fun r hr => (hr0 r hr).2
      have hS5 : SameX [u] H H5 := fun c o m hc => a5.same c o (fun z => by
        rcases List.mem_append.mp z with z | z
        · rw [hrs0 c z] at hc; cases hc
        · exact m z) hc
      refine fin v H5 hS5 (by rw [a5.own.at huA]; exact c1) (a5.immV r5 ?_)
      exact .tup (imm2 (.int _) (.tup fun d hd => by
        obtain ⟨r, _, rfl⟩ := List.mem_map.mp hd
        exact keyD_imm r))
end
end SP
set_option Elab.async false
set_option linter.all false
set_option maxRecDepth 100000
set_option maxHeartbeats 200000
/-! Stillpanes: _law_box, _law_cells. -/
namespace SP
open PySem L2 PySem.Spec PyProof.Rows
def boxL (c : Int) : List Int := [((c.natAbs : Nat) : Int) * (if decide ((1000000000000000000 : Int) ≤ (c.natAbs : Nat)) = true then 1 else 0), c % 2305843009213693951 + 39373 * 0 + 2325039, 0]
theorem box_ok (c : Int) : UOk 0 (boxL c) := by
  have h1 : 0 ≤ c % 2305843009213693951 := Int.emod_nonneg _ (by omega)
  have h2 : c % 2305843009213693951 < 2305843009213693951 := Int.emod_lt_of_pos _ (by omega)
  exact ⟨_, _, _, rfl, by omega, by omega, by omega, by omega⟩
def cellsF (acc : Int) (p : Int × Nat) : Int := acc + p.1 * ((p.2 : Nat) + 2)
def cellsZ (ns : List Int) : Int := ((ns.drop 1).take 62).zipIdx.foldl cellsF (ns.headD 0)
section
variable {A : List Addr} {C C' : Hp} {b : Bool} {ps : Ds} {G0 H0 H : Hp} {σ : L2.St} {K : PySem.W.Frag}
theorem At.retL (a : At b G0 H0 A C ps σ H) {ta : TA} {ds : List D} {Dn : Ends} (h : EaP b ps ta ds) (hl : ds.length ≤ 100000) (k : ∀ vs H1 p, Same H H1 → H1 p = none → RL b (Gx A G0 H0 H1) vs ds → Dn.rt (.ref p) (upd H1 p (.lst vs))) : tRet (tLst ta) Dn σ H := by
  unfold tRet tLst
  refine a.eaP h fun vs H1 e a1 r => ⟨sz_of (by rw [r.len]; exact hl), fun p hp => k vs H1 p e hp r⟩
/-- list(xs) or [0] -/
theorem At.newOr (a : At b G0 H0 A C ps σ H) {te : TE} {ns : List Int} {Q : VK} (h : EvP b ps te (.lst (ns.map .int))) (k : ∀ p H1, SameX A H H1 → p ∉ A → H0 p = none → At b G0 H0 (p :: A) (upd C p (urnO (if ns.isEmpty = true then [0] else ns))) ps σ H1 → Q (.ref p) H1) :
    tOrT K (tCB (rLstQ K) (tCons te tNil)) (tLst (tCons (tC (.int 0)) tNil)) σ H Q := by
  unfold tOrT tCB
  refine a.evP h fun v H1 e1 a1 r1 => ?_
  obtain ⟨l, xs, rfl, el, rl⟩ := R.lst_ r1
  have exs := rl.ints
  subst exs
  refine ⟨l, ns.map V.int, rfl, .inl (SqL.of (a1.gsub _ _ el)), fun p hp => ⟨!(ns.map V.int).isEmpty, .inl ⟨_, SqL.of upd_same, rfl⟩, ?_⟩⟩
  have e2 : Same H1 (upd H1 p (.lst (ns.map V.int))) := same_upd hp
  cases hn : ns with
  | cons n0 nr =>
    rw [List.map_cons, List.isEmpty_cons, Bool.not_false, if_pos rfl, ← List.map_cons]
    obtain ⟨a2, h1, h2⟩ := a1.own_ (o := urnO (n0 :: nr)) hp trivial
    exact k p _ ((SameX.of e1).trans (.of (same_upd hp))) h1 h2 (by rw [hn, List.isEmpty_cons, if_neg (by decide)]; exact a2)
  | nil =>
    rw [List.map_nil, List.isEmpty_nil, Bool.not_true, if_neg (by decide)]
    refine ⟨by show 1 ≤ sizeLine; decide, fun p2 hp2 => ?_⟩
    have a1' := a1.same' (same_upd (o := HO.lst []) hp)
    obtain ⟨a2, h1, h2⟩ := a1'.own_ (o := urnO [0]) hp2 trivial
    exact k p2 _ ((SameX.of e1).trans ((SameX.of (same_upd hp)).trans (.of (same_upd hp2)))) h1 h2 (by rw [hn, List.isEmpty_nil, if_pos rfl]; exact a2)
end
section
variable {P : Program} {w : World} {K : PySem.W.Frag} {mg : Str → Option Value} {base : Heap}
theorem ev_big {b : Bool} {ps : Ds} : EvP b ps (tOp (rI CPow fun i j => .int (i ^ j.toNat)) (tC (.int 10)) (tC (.int 18))) (.int 1000000000000000000) := by
  have h : CPow 10 18 := ⟨by omega, by omega, by decide +kernel⟩
  have e : (10 : Int) ^ (18 : Int).toNat = 1000000000000000000 := by decide +kernel
  have z := ev_I (b := b) (ps := ps) (C := CPow) (g := fun i j => .int (i ^ j.toNat)) (z := .int ((10 : Int) ^ (18 : Int).toNat)) (fun H => .int _) ev_int ev_int h
  rw [e] at z
  exact z
def FBox (ds : List D) (d : D) : Prop := ∃ c : Int, ds = [.lst [.int c], .int 0] ∧ d = .lst ((boxL c).map .int)
theorem sc_law_box : FnScope ["_law_script", "_law_k", "_law_cell"] ["_law_script", "_law_k"] (defScope (top 29)) := ⟨rfl, rfl, rfl, by decide +kernel, rfl, by decide +kernel, by decide +kernel⟩
theorem ok_law_box (T : Txt mg) {f : Addr} {fd : FuncData} (Fn : Fun K "_law_box" "_law_box" (top 29) f fd) : FnOk P w K mg base (L2.CX P w) 1 f fd ["_law_script", "_law_k"] (SpR FBox) := by
  refine ok_ownP (k := 0) Fn sc_law_box (fun ds d ⟨c, e, _⟩ => by subst e; rfl) fun cdv A outer s H E ds d hr ⟨c, e, ed⟩ => ?_
  subst e ed
  refine ⟨_, (pss_cons (ps_set (i := 2) sc_law_box.nd rfl (Or.inl rfl) (pe_ifExp (pt_cmpR op_lt (pv 1) (pe_callB (len_ K) (by rfl) T.len_ bt_len (pa_cons (pv 0) pa_nil)) (nomark _)) (pe_ix (ixL_ K) (pv 0) (pv 1) (fun _ _ => rfl)) pe_int))
      (pss_one (ps_ret (pe_lst (pa_cons (pe_op op_mul (pe_callB call_abs (by rfl) T.abs_ bt_abs (pa_cons (pv 2) pa_nil)) (pe_callTy call_int1 (by rfl) T.int_ bt_int (pa_cons (pe_cmpR op_ge (pe_callB call_abs (by rfl) T.abs_ bt_abs (pa_cons (pv 2) pa_nil)) (pe_op op_pow pe_int pe_int) (nomark _)) pa_nil))) (pa_cons (pe_op op_add (pe_op op_add (pe_op op_mod (pe_callTy call_int1 (by rfl) T.int_ bt_int (pa_cons (pv 2) pa_nil)) pe_int) (pe_op op_mul pe_int (pv 1))) pe_int) (pa_cons pe_int pa_nil))))))), fun σ Dn a0 fin => ?_⟩
  have a0 : At false H H [] (fun _ => none) [some (.lst [.int c]), some (.int 0), none] σ H := a0
  refine tseq_ (a0.evP (d := .int c) (ev_if (c := true) (EtP.is (et_test (ev_lt (ev_var rfl) (ev_lenL (ea_cons (ev_var rfl) ea_nil)))) rfl) (fun _ => ev_ixL (ev_var rfl) (ev_var rfl) (atI_nat (j := 0) rfl)) (fun z => nomatch z)) fun v H1 e1 a1' r1 => ?_)
  refine gname_ ?_
  dsimp only
  have a1 : At false H H [] (fun _ => none) [some (.lst [.int c]), some (.int 0), some (.int c)] _ H1 := a1'.set 2 r1
  have hpos : (0 : Int) < 2305843009213693951 := by omega
  refine a1.retL (ds := [.int (((c.natAbs : Nat) : Int) * (if decide ((1000000000000000000 : Int) ≤ (c.natAbs : Nat)) = true then 1 else 0)), .int (c % 2305843009213693951 + 39373 * 0 + 2325039), .int 0]) (ea_cons (ev_mul (ev_abs (ea_cons (ev_var (n := 2) rfl) ea_nil)) (ev_intB (ea_cons (ev_ge (ev_abs (ea_cons (ev_var (n := 2) rfl) ea_nil)) ev_big) ea_nil)) ?_) (ea_cons (ev_add (i := c % 2305843009213693951 + 39373 * 0) (j := 2325039) (ev_add (i := c % 2305843009213693951) (j := 39373 * 0) (ev_mod (i := c) (j := 2305843009213693951) (ev_intI (ea_cons (ev_var (n := 2) rfl) ea_nil)) ev_int hpos) (ev_mul (i := 39373) (j := 0) ev_int (ev_var (n := 1) rfl) (cmul_r (by omega) (by omega)))) ev_int) (ea_cons ev_int ea_nil))) (by show 3 ≤ 100000; omega) fun vs H2 p e2 hp r2 => fin _ _ ((e1.trans e2).trans (same_upd hp)) ?_
  · split
    · exact cmul_r (by omega) (by omega)
    · exact cmul_r (by omega) (by omega)
  · have r3 : RL false (Gx [] H H H2) vs ((boxL c).map .int) := by
      unfold boxL
      exact r2
    rw [r3.ints]
    exact .lst (ext_new (Same.free (e1.trans e2) hp) upd_same) (rl_ints _)
def FCells (ds : List D) (d : D) : Prop := ∃ ns : List Int, ds = [.lst (ns.map .int), .int 1] ∧ ns.length ≤ 100000 ∧ d = .lst [.int (cellsZ ns)]
theorem sc_law_cells : FnScope ["_law_script", "_law_many", "_law_cells_here", "_law_k", "_law_cell", "_law_at"] ["_law_script", "_law_many"] (defScope (top 31)) := ⟨rfl, rfl, rfl, by decide +kernel, rfl, by decide +kernel, by decide +kernel⟩
theorem ok_law_cells (T : Txt mg) {f : Addr} {fd : FuncData} (Fn : Fun K "_law_cells" "_law_cells" (top 31) f fd) : FnOk P w K mg base (L2.CX P w) 1 f fd ["_law_script", "_law_many"] (SpR FCells) := by
  refine ok_ownP (k := 0) Fn sc_law_cells (fun ds d ⟨c, e, _⟩ => by subst e; rfl) fun cdv A outer s H E ds d hr ⟨ns, e, hl, ed⟩ => ?_
  subst e ed
  refine ⟨_, (pss_cons (ps_set (i := 2) sc_law_cells.nd rfl (Or.inl rfl) (orT_ K (pe_callTy (lst_ K) (by rfl) T.list_ bt_list (pa_cons (pe_slice (slL_ K) (pv 0) po_none (po_some (pv 1))) pa_nil)) (pe_one (pe_lst (pa_cons pe_int pa_nil)))))
      (pss_cons (ps_for (passes_of rfl) rfl (eL_ K (by rfl) T.enumerate_ (pa_cons (pe_slice (slL_ K) (pv 0) (po_some (pv 1)) (po_some pe_int)) pa_nil)) (gT_ K (n := 2) rfl (pgs_cons (pg_name (i := 3) sc_law_cells.nd rfl (Or.inl rfl)) (pgs_cons (pg_name (i := 4) sc_law_cells.nd rfl (Or.inl rfl)) pgs_nil)))
      (pss_cons (ps_set (i := 5) sc_law_cells.nd rfl (Or.inl rfl) (pe_op op_mod (pe_callTy call_int1 (by rfl) T.int_ bt_int (pa_cons (pv 3) pa_nil)) (pv 1)))
      (pss_one (ps_asg (pe_op op_add (pe_ix (ixL_ K) (pv 2) (pv 5) (fun _ _ => rfl)) (pe_op op_mul (pv 4) (pe_op op_add (pv 3) pe_int))) (pg_sub (pv 2) (pv 5) set_list)))))
      (pss_one (ps_ret (pv 2))))), fun σ Dn a0 fin => ?_⟩
  have a0 : At false H H [] (fun _ => none) [some (.lst (ns.map .int)), some (.int 1), none, none, none, none] σ H := a0
  have hs1 : HT.sIx ns.length 0 (some 1) = min 1 ns.length := HT.sIx_nat ns.length 0 1
  have hs2 : HT.sIx ns.length ns.length (some 1) = min 1 ns.length := HT.sIx_nat ns.length ns.length 1
  have hs3 : HT.sIx ns.length ns.length (some 63) = min 63 ns.length := HT.sIx_nat ns.length ns.length 63
  have hs4 : HT.sIx ns.length 0 none = 0 := rfl
  have hc1 : cutD (ns.map D.int) none (some 1) = (ns.take 1).map .int := by
    unfold cutD
    rw [List.length_map, hs2, hs4, List.drop_zero, Nat.sub_zero, ← List.map_take]
    congr 1
    exact List.take_eq_take_iff.mpr (by omega)
  have hc2 : cutD (ns.map D.int) (some 1) (some 63) = ((ns.drop 1).take 62).map .int := by
    unfold cutD
    rw [List.length_map, hs1, hs3, ← List.map_drop, ← List.map_take]
    congr 1
    cases ns with
    | nil => simp
    | cons n0 nr =>
      rw [show min 1 (n0 :: nr).length = 1 from by rw [List.length_cons]; omega]
      refine List.take_eq_take_iff.mpr ?_
      rw [List.length_drop, List.length_cons]
      omega
  refine tseq_ (a0.newOr (ns := ns.take 1) (EvP.is (ev_sliceL (ev_var rfl) eo_none (eo_some (ev_var rfl))) (by rw [hc1])) fun p H1 e1 hpA hp0 a1' => ?_)
  refine gname_ ?_
  dsimp only
  have e0 : (if (ns.take 1).isEmpty = true then [0] else ns.take 1) = [ns.headD 0] := by
    cases ns <;> rfl
  rw [e0] at a1'
  have hp : p ∈ [p] := List.mem_singleton.mpr rfl
  have a1 : At false H H [p] (upd (fun _ => none) p (urnO [ns.headD 0])) [some (.lst (ns.map .int)), some (.int 1), some (.adr p), none, none, none] _ H1 := a1'.set 2 (.adr p)
  refine tseq_ (a1.for_ (items := ((ns.drop 1).take 62).zipIdx.map fun q => D.tup [.int (q.2 : Nat), .int q.1]) (fun i C ps => C p = some (urnO [(((ns.drop 1).take 62).zipIdx.take i).foldl cellsF (ns.headD 0)]) ∧ ps = [some (.lst (ns.map .int)), some (.int 1), some (.adr p), none, none, none])
    (IvP.is (iv_enumL (ea_cons (EvP.is (ev_sliceL (ev_var (n := 0) rfl) (eo_some (ev_var (n := 1) rfl)) (eo_some ev_int)) (by rw [hc2])) ea_nil)) (enum_map _ _)) ⟨upd_same, rfl⟩ (fun H2 i d σ' H' v C' ps' f1 hd f2 a2 ⟨hc, hps⟩ r => ?_) fun σ' H' C' ps' f1 a2 ⟨hc, hps⟩ => ?_)
  · subst hps
    obtain ⟨q, hq, rfl⟩ : ∃ q : Int × Nat, ((ns.drop 1).take 62).zipIdx[i]? = some q ∧ d = .tup [.int (q.2 : Nat), .int q.1] := by
      rw [List.getElem?_map] at hd
      obtain ⟨q, hq, rfl⟩ := Option.map_eq_some_iff.mp hd
      exact ⟨q, hq, rfl⟩
    have hq2 : q.2 < 62 := by
      rw [List.getElem?_zipIdx] at hq
      obtain ⟨z, hz, rfl⟩ := Option.map_eq_some_iff.mp hq
      have := (List.getElem?_eq_some_iff.mp hz).1
      rw [List.length_take] at this
      show 0 + i < 62
      omega
    refine a2.gd (vs := [3, 4]) (gd_tup (gs_cons gd_name (gs_cons gd_name gs_nil)) rfl) r fun σ2 a3' => ?_
    have a3 : At false H H [p] C' [some (.lst (ns.map .int)), some (.int 1), some (.adr p), some (.int (q.2 : Nat)), some (.int q.1), none] σ2 H' := a3'
    refine tseq_ (a3.evP (d := .int 0) (EvP.is (ev_mod (ev_intI (ea_cons (ev_var (n := 3) rfl) ea_nil)) (ev_var (n := 1) rfl) (by omega)) (by rw [Int.emod_one])) fun v H3 e3 a4' r4 => ?_)
    refine gname_ ?_
    dsimp only
    have a4 : At false H H [p] C' [some (.lst (ns.map .int)), some (.int 1), some (.adr p), some (.int (q.2 : Nat)), some (.int q.1), some (.int 0)] _ H3 := a4'.set 5 r4
    refine a4.setO (j := 2) (i := 0) (st := [(((ns.drop 1).take 62).zipIdx.take i).foldl cellsF (ns.headD 0)]) rfl hp hc (ev_add (ev_ixL (ev_var (n := 2) rfl) (ev_var (n := 5) rfl) (atI_nat (j := 0) rfl)) (ev_mul (ev_var (n := 4) rfl) (ev_add (ev_var (n := 3) rfl) ev_int) (cmul_r (by omega) (by omega)))) (ev_var (n := 5) rfl) rfl fun H4 e4 a5 => ?_
    refine ⟨(f2.trans (.of e3)).trans e4, _, _, a5.fgt [3, 4, 5] rfl, ?_, rfl⟩
    have ht : ((ns.drop 1).take 62).zipIdx.take (i + 1) = ((ns.drop 1).take 62).zipIdx.take i ++ [q] := by
      rw [List.take_add_one (l := ((ns.drop 1).take 62).zipIdx), hq]
      rfl
    rw [upd_same, ht, List.foldl_append]
    rfl
  · subst hps
    rw [List.length_map, List.take_length] at hc
    refine a2.evP (ev_var (n := 2) rfl) fun v H2 e2 a3 r3 => ?_
    cases r3.adr_
    refine fin _ _ (a3.sameN fun c m => by rw [List.mem_singleton.mp m]; exact hp0) (.lst (ext_new hp0 (by rw [a3.own.at hp]; exact hc)) (rl_ints [cellsZ ns]))
end
end SP
set_option Elab.async false
set_option linter.all false
set_option maxRecDepth 100000
set_option maxHeartbeats 1000000
/-! Stillpanes: _law_heard. -/
namespace SP
open PySem L2 PySem.Spec PyProof.Rows
section
variable {X : Cx} {E : L2.St → XK} {fe e : Expr} {es : List Expr} {tf : TE} {t : TA} {pos : Pos} {fs : List (Addr × Sp)}
/-- f(..) where f is one of fs -/
def tCallD (fs : List (Addr × Sp)) (E : L2.St → XK) (tf : TE) (t : TA) : TE := fun σ H Q => tf σ H fun x H1 => ∃ p ∈ fs, x = .ref p.1 ∧ t σ H1 fun vs H2 => p.2 vs H2 Q (E σ)
theorem pe_callD (hc : ∀ p ∈ fs, Cal X E p.1 p.2) (hf : PE X fe tf) (ha : PA X (e :: es) t)
    (hev : eval (.Call fe (e :: es) [] pos) X.env = (do callWith pos (← eval fe X.env) [] (backTo pos (starEach (e :: es) X.env)) (backToKw pos (keywordEach [] X.env))) := by rfl)
    (he : starEach (e :: es) X.env = (false, eval e X.env) :: starEach es X.env := by rfl) (hpl : (backTo pos (starEach es X.env)).any (·.1) = false := by rfl) :
    PE X (.Call fe (e :: es) [] pos) (tCallD fs E tf t) := by
  refine ⟨fun pins s σ H Q I h => ?_⟩
  refine Call_ (thn (hf.run pins s σ H _ I h) fun u s1 ⟨x, H1, I1, rx, p, hp, ex, q1⟩ => ?_) hev
  obtain ⟨CX, k, fd, ps, F, hr, hk, hb, hx⟩ := hc p hp
  subst ex
  cases rx
  refine PySem.W.callWith_K (h₀ := X.base) I.ok.mod.kin hk (thn (ha.run pos pins s1 σ H1 _ I1 q1) fun us s2 ⟨vs, H2, I2, r, q2⟩ => ⟨I2.kIn, ?_⟩) he hpl
  exact run_fnS F hr hb (hx σ) I2 r q2
end
/-- what the class CanNot says to except and isinstance -/
structure XCanE (K : PySem.W.Frag) (C : Addr) : Prop where
  exm : PySem.W.exmOne K (.ref C) (.ref C) = some true
  is : ExcC K C
  kit : PySem.W.kitOne K (.ref C) (.type "ValueError") = some true
/-- isinstance(error, c) behind 'except CanNot as error' -/
def rIsC (K : PySem.W.Frag) (C a : Addr) (cls : Value) (d : Option Addr) : List V → Hp → VK → Prop := fun xs H Q => cls = .ref C ∧ d = none ∧ rIsE K C a xs H Q
def tsCan (K : PySem.W.Frag) (C a : Addr) (cls : Value) (d : Option Addr) : TS := tRet (tLst (tCons (tC (.str "can not")) (tCons (tCB (rIsC K C a cls d) (tCons (tVar 4) (tCons (tC (.ty "ValueError")) tNil))) tNil)))
theorem call_isC {X : Cx} {a C : Addr} {cls : Value} {d : Option Addr} {oe : Obj} {pn : List (Addr × Obj)} (h : ExcC X.K C) (hz : Zc cls d oe) (hf : ∃ vs, oe.data = .fields vs) : CallR (X.suite a ((a, oe) :: pn)) (.builtin "isinstance") (rIsC X.K C a cls d) := by
  intro pins s σ H xs us Q I r ⟨e1, e2, q⟩
  subst e1 e2
  exact call_isE h hz hf pins s σ H xs us Q I r q
section
variable {P : Program} {w : World} {K : PySem.W.Frag} {mg : Str → Option Value} {base : Heap}
def canD : D := .lst [.str "can not", .bl true]
def optD (o : Option D) : D := o.getD canD
def heardO (door : Nat) (L : Lay) (W : Nat) (dr : List Nat) (ls : List (List Nat × Int)) : Option D := match door with
  | 0 => (fewO L ls dr W).map .int
  | 1 => (leastO L ls dr W).map nats
  | 2 => (stayO L ls W dr).map fun (n : Nat) => .int (n : Int)
  | _ => (outO L dr W ls).map .int
def FHeard (ds : List D) (d : D) : Prop := ∃ (door : Nat) (L : Lay) (W : Nat) (dr : List Nat) (ls : List (List Nat × Int)) (x y z : D), door < 4 ∧ ds = [.int (door : Int), x, y, z] ∧ Told L W dr ls x y z ∧ d = optD (heardO door L W dr ls)
theorem sc_law_heard : FnScope ["_law_door", "_law_layout", "_law_drawing", "_law_limits", "error"] ["_law_door", "_law_layout", "_law_drawing", "_law_limits"] (defScope (top 46)) := ⟨rfl, rfl, rfl, by decide +kernel, rfl, by decide +kernel, by decide +kernel⟩
theorem ok_law_heard (T : Txt mg) {C : Addr} (XC : XCan K mg C) (XE : XCanE K C) (h_few : Has P w K mg base "fewest_moved" ["layout", "drawing", "limits"] 5 (SpE C FFew)) (h_least : Has P w K mg base "least_moved" ["layout", "drawing", "limits"] 5 (SpE C FLeast)) (h_stays : Has P w K mg base "stays_to" ["layout", "drawing", "limits"] 5 (SpE C FStays)) (h_out : Has P w K mg base "out_by" ["layout", "drawing", "limits"] 5 (SpE C FOutBy))
    {f : Addr} {fd : FuncData} (Fn : Fun K "_law_heard" "_law_heard" (top 46) f fd) : FnOk P w K mg base (L2.CX P w) 6 f fd ["_law_door", "_law_layout", "_law_drawing", "_law_limits"] (SpR FHeard) := by
  obtain ⟨f1, fd1, F1, hm1, hk1, hb1⟩ := h_few
  obtain ⟨f2, fd2, F2, hm2, hk2, hb2⟩ := h_least
  obtain ⟨f3, fd3, F3, hm3, hk3, hb3⟩ := h_stays
  obtain ⟨f4, fd4, F4, hm4, hk4, hb4⟩ := h_out
  refine ok_low (k := 5) Fn sc_law_heard (fun ds d ⟨door, L, W, dr, ls, x, y, z, h4, e, hT, _⟩ => by
    subst e
    exact ⟨rfl, fun d hd => by
      rcases List.mem_cons.mp hd with rfl | hd
      · exact ⟨0, .atom rfl⟩
      · exact nst3 hT.nx hT.ny hT.nz d hd⟩) fun cdv A outer s H E ds d hr ⟨door, L, W, dr, ls, x, y, z, h4, e, hT, ed⟩ => ?_
  subst e ed
  have hfs : ∀ {X : Cx} {W : WX}, X.prog = P → X.w = w → X.K = K → X.mg = mg → X.base = base → Room 5 X.A → Takes X W → ∀ p ∈ [(f1, SpE C FFew), (f2, SpE C FLeast), (f3, SpE C FStays), (f4, SpE C FOutBy)], Cal X (WE W) p.1 p.2 := fun {X W} e1 e2 e3 e4 e5 hr tk p hp => by
    subst e1 e2 e3 e4 e5
    rcases List.mem_cons.mp hp with rfl | hp
    · exact ⟨_, 5, fd1, _, F1, hr, hk1, hb1, fun σ => passAt tk σ⟩
    · rcases List.mem_cons.mp hp with rfl | hp
      · exact ⟨_, 5, fd2, _, F2, hr, hk2, hb2, fun σ => passAt tk σ⟩
      · rcases List.mem_cons.mp hp with rfl | hp
        · exact ⟨_, 5, fd3, _, F3, hr, hk3, hb3, fun σ => passAt tk σ⟩
        · rw [List.mem_singleton.mp hp]
          exact ⟨_, 5, fd4, _, F4, hr, hk4, hb4, fun σ => passAt tk σ⟩
  refine ⟨_, pss_one (ps_try_as (i := 4) (tb := fun W => tRet (tCallD [(f1, SpE C FFew), (f2, SpE C FLeast), (f3, SpE C FStays), (f4, SpE C FOutBy)] (WE W) (tOp (rIxL K) (tLst (tCons (tC (.ref f1)) (tCons (tC (.ref f2)) (tCons (tC (.ref f3)) (tCons (tC (.ref f4)) tNil))))) (tVar 0)) (tCons (tVar 1) (tCons (tVar 2) (tCons (tVar 3) tNil))))) (ts := tsCan K C) (Wout := fun _ _ _ _ => False) rfl rfl sc_law_heard.nd rfl rfl ⟨by rfl, by decide, Or.inl XC.g⟩ takes0
    (fun W pn xe tk _ => pss_one (ps_ret (pe_callD (hfs rfl rfl rfl rfl rfl hr tk) (pe_ix (ixL_ K) (pe_lst (pa_cons (pe_glob (by rfl) hm1 rfl) (pa_cons (pe_glob (by rfl) hm2 rfl) (pa_cons (pe_glob (by rfl) hm3 rfl) (pa_cons (pe_glob (by rfl) hm4 rfl) pa_nil))))) (pv 0) (fun _ _ => rfl)) (pa_cons (pv 1) (pa_cons (pv 2) (pa_cons (pv 3) pa_nil))))))
    (fun a oe cls d pn hz hf => pss_one (ps_ret (pe_lst (pa_cons pe_str (pa_cons (pe_callB (call_isC XE.is hz hf) (by rfl) T.isinstance_ bt_isinstance (pa_cons (pv 4) (pa_cons (pe_bltn (v := .ty "ValueError") (by rfl) T.ValueError_ bt_ValueError rfl) pa_nil))) pa_nil)))))), fun σ Dn a0 fin => ?_⟩
  have a0 : At true (noD H) H [] (fun _ => none) [some (.int (door : Int)), some x, some y, some z, none] σ H := a0
  have eadr : ∀ {b : Bool} {ps : Ds} {g : Addr}, EvP b ps (tC (.ref g)) (.adr g) := fun {b ps g} σ H G sub s Q q => q _ H (Same.refl H) (.adr g)
  have hl4 : 4 < σ.length := by
    have := a0.sl.1
    simp at this
    omega
  have main : ∀ (g : Addr) (F : List D → Option D → Prop) (o : Option D), (g, SpE C F) ∈ [(f1, SpE C FFew), (f2, SpE C FLeast), (f3, SpE C FStays), (f4, SpE C FOutBy)] → F [x, y, z] o → (∀ b : Bool, atI [D.adr f1, .adr f2, .adr f3, .adr f4] (door : Int) = some (.adr g)) → optD (heardO door L W dr ls) = optD o →
      tRet (tCallD [(f1, SpE C FFew), (f2, SpE C FLeast), (f3, SpE C FStays), (f4, SpE C FOutBy)] (WE (wAs K (.ref C) 4 (tsCan K C) (fun _ _ _ _ => False) Dn)) (tOp (rIxL K) (tLst (tCons (tC (.ref f1)) (tCons (tC (.ref f2)) (tCons (tC (.ref f3)) (tCons (tC (.ref f4)) tNil))))) (tVar 0)) (tCons (tVar 1) (tCons (tVar 2) (tCons (tVar 3) tNil)))) Dn σ H := fun g F o hmem hF hat he => by
    unfold tRet tCallD
    refine a0.evP (ev_ixL (ev_lst (ea_cons eadr (ea_cons eadr (ea_cons eadr (ea_cons eadr ea_nil)))) (by simp)) (ev_var rfl) (hat true)) fun v H1 e1 a1 r1 => ?_
    cases r1.adr_
    refine ⟨_, hmem, rfl, a1.eaP (ea_cons (ev_var rfl) (ea_cons (ev_var rfl) (ea_cons (ev_var rfl) ea_nil))) fun vs H2 e2 a2 r2 => ?_⟩
    refine ⟨[x, y, z], o, (r2.same a2.gsub).wk, hF, fun d' hd' v H3 e3 r3 => fin v H3 ((e1.trans e2).trans e3) ?_, fun ho H3 e3 => ⟨true, XE.exm, fun _ a ha => ?_, fun z => nomatch z⟩⟩
    · rw [he, hd']
      exact r3.same fun c u h => by
        rcases ext_cases h with ⟨⟨vs, rfl⟩, h⟩ | ⟨h1, h⟩ | ⟨_, h⟩
        · exact ext_tup h
        · exact ext_new (Same.free (e1.trans e2) h1) h
        · cases h
    · unfold tsCan tRet tLst
      show ∃ v, (σ.set 4 (some (.ref a)))[4]? = some (some v) ∧ _
      refine ⟨.ref a, List.getElem?_set_self hl4, rfl, rfl, .ty "ValueError", .type "ValueError", true, rfl, fun u hu => hu, XE.kit, by show 2 ≤ sizeLine; decide, fun p hp => fin _ _ (((e1.trans e2).trans e3).trans (same_upd hp)) ?_⟩
      rw [he, ho]
      exact .lst (ext_new (Same.free ((e1.trans e2).trans e3) hp) upd_same) (.cons (.str _) (.cons (.bl true) .nil))
  match door, h4 with
  | 0, _ => exact main f1 FFew _ (by simp) ⟨L, W, dr, ls, x, y, z, rfl, hT, rfl⟩ (fun _ => atI_nat (j := 0) rfl) rfl
  | 1, _ => exact main f2 FLeast _ (by simp) ⟨L, W, dr, ls, x, y, z, rfl, hT, rfl⟩ (fun _ => atI_nat (j := 1) rfl) rfl
  | 2, _ => exact main f3 FStays _ (by simp) ⟨L, W, dr, ls, x, y, z, rfl, hT, rfl⟩ (fun _ => atI_nat (j := 2) rfl) rfl
  | 3, _ => exact main f4 FOutBy _ (by simp) ⟨L, W, dr, ls, x, y, z, rfl, hT, rfl⟩ (fun _ => atI_nat (j := 3) rfl) rfl
  | n + 4, h => exact absurd h (by omega)
end
end SP
set_option Elab.async false
set_option linter.all false
set_option maxRecDepth 100000
set_option maxHeartbeats 1000000
/-! Stillpanes: the plain law. -/
namespace SP
/-! ### counts, kept prefixes -/
def cnt (n : Nat) (t : List Nat) : List Int := t.foldl moreZ (List.replicate n 0)
theorem cnt_snoc (n : Nat) (t : List Nat) (p : Nat) : cnt n (t ++ [p]) = moreZ (cnt n t) p := by
  unfold cnt
  rw [List.foldl_append]
  rfl
theorem cnt_append (n : Nat) (t r : List Nat) : cnt n (t ++ r) = r.foldl moreZ (cnt n t) := by
  unfold cnt
  rw [List.foldl_append]
theorem fold_more_len : ∀ (t : List Nat) (c : List Int), (t.foldl moreZ c).length = c.length
  | [], c => rfl
  | p :: t, c => by rw [List.foldl_cons, fold_more_len t, moreZ_len]
theorem cnt_len (n : Nat) (t : List Nat) : (cnt n t).length = n := by
  unfold cnt
  rw [fold_more_len, List.length_replicate]
structure Kp (L : Lay) (ls : List (List Nat × Int)) (t : List Nat) : Prop where
  lt : ∀ p ∈ t, p < L.rows.length
  ok : ∀ i, i < t.length → within L ls (i + 1) (cnt L.rows.length (t.take (i + 1))) = true
section
variable {L : Lay} {ls : List (List Nat × Int)} {t r : List Nat} {c : List Int} {w p W : Nat}
theorem Kp.nil : Kp L ls [] := ⟨by simp, by simp⟩
theorem Kp.snoc (h : Kp L ls t) (hp : p < L.rows.length) (hw : within L ls (t.length + 1) (moreZ (cnt L.rows.length t) p) = true) : Kp L ls (t ++ [p]) := by
  refine ⟨fun q hq => ?_, fun i hi => ?_⟩
  · rcases List.mem_append.mp hq with hq | hq
    · exact h.lt q hq
    · rw [List.mem_singleton.mp hq]; exact hp
  · rw [List.length_append, List.length_singleton] at hi
    by_cases e : i = t.length
    · subst e
      rw [List.take_of_length_le (by simp), cnt_snoc]
      exact hw
    · rw [List.take_append_of_le_length (by omega)]
      exact h.ok i (by omega)
theorem Kp.take (h : Kp L ls t) (i : Nat) : Kp L ls (t.take i) := by
  refine ⟨fun p hp => h.lt p (List.mem_of_mem_take hp), fun j hj => ?_⟩
  rw [List.length_take] at hj
  rw [List.take_take, Nat.min_eq_left (by omega)]
  exact h.ok j (by omega)
theorem Kp.splice (h : Kp L ls t) (h' : Kp L ls r) (hl : t.length ≤ r.length) (e : cnt L.rows.length t = cnt L.rows.length (r.take t.length)) : Kp L ls (t ++ r.drop t.length) := by
  refine ⟨fun p hp => ?_, fun i hi => ?_⟩
  · rcases List.mem_append.mp hp with hp | hp
    · exact h.lt p hp
    · exact h'.lt p (List.mem_of_mem_drop hp)
  · rw [List.length_append, List.length_drop] at hi
    by_cases hi' : i < t.length
    · rw [List.take_append_of_le_length (by omega)]
      exact h.ok i hi'
    · have z := h'.ok i (by omega)
      have e1 : r.take (i + 1) = r.take t.length ++ (r.drop t.length).take (i + 1 - t.length) := by
        have : i + 1 = t.length + (i + 1 - t.length) := by omega
        rw [← List.take_add, ← this]
      rw [e1, cnt_append, ← e] at z
      rw [List.take_append, List.take_of_length_le (by omega), cnt_append]
      exact z
theorem mem_addSt {later : List (List Int)} {x : List Int} : x ∈ addSt L ls w later c p ↔ x ∈ later ∨ (x = moreZ c p ∧ within L ls w x = true) := by
  unfold addSt
  by_cases h : moreZ c p ∈ later
  · rw [decide_eq_true h]
    simp only [Bool.not_true, Bool.false_and, Bool.false_eq_true, if_false]
    constructor
    · exact .inl
    · rintro (h1 | ⟨rfl, _⟩)
      · exact h1
      · exact h
  · rw [decide_eq_false h]
    simp only [Bool.not_false, Bool.true_and]
    by_cases hw : within L ls w (moreZ c p) = true
    · rw [if_pos hw, List.mem_append, List.mem_singleton]
      constructor
      · rintro (h1 | rfl)
        · exact .inl h1
        · exact .inr ⟨rfl, hw⟩
      · rintro (h1 | ⟨rfl, _⟩)
        · exact .inl h1
        · exact .inr rfl
    · rw [if_neg hw]
      constructor
      · exact .inl
      · rintro (h1 | ⟨rfl, h2⟩)
        · exact h1
        · exact absurd h2 hw
theorem mem_addSts {x : List Int} : ∀ (ps : List Nat) (later : List (List Int)), x ∈ ps.foldl (fun later p => addSt L ls w later c p) later ↔ x ∈ later ∨ ∃ p ∈ ps, x = moreZ c p ∧ within L ls w x = true
  | [], later => by simp
  | p :: ps, later => by
    rw [List.foldl_cons, mem_addSts ps, mem_addSt]
    constructor
    · rintro ((h | ⟨h1, h2⟩) | ⟨q, hq, h⟩)
      · exact .inl h
      · exact .inr ⟨p, List.mem_cons_self .., h1, h2⟩
      · exact .inr ⟨q, List.mem_cons_of_mem _ hq, h⟩
    · rintro (h | ⟨q, hq, h⟩)
      · exact .inl (.inl h)
      · rcases List.mem_cons.mp hq with rfl | hq
        · exact .inl (.inr h)
        · exact .inr ⟨q, hq, h⟩
theorem mem_stepSts {x : List Int} : ∀ (st later : List (List Int)), x ∈ st.foldl (turnSt L ls w) later ↔ x ∈ later ∨ ∃ c ∈ st, ∃ p, p < L.rows.length ∧ x = moreZ c p ∧ within L ls w x = true
  | [], later => by simp
  | c :: st, later => by
    rw [List.foldl_cons, mem_stepSts st]
    unfold turnSt
    rw [mem_addSts]
    constructor
    · rintro ((h | ⟨p, h0, h1, h2⟩) | ⟨d, hd, h⟩)
      · exact .inl h
      · exact .inr ⟨c, List.mem_cons_self .., p, List.mem_range.mp h0, h1, h2⟩
      · exact .inr ⟨d, List.mem_cons_of_mem _ hd, h⟩
    · rintro (h | ⟨d, hd, p, h0, h⟩)
      · exact .inl (.inl h)
      · rcases List.mem_cons.mp hd with rfl | hd
        · exact .inl (.inr ⟨p, List.mem_range.mpr h0, h⟩)
        · exact .inr ⟨d, hd, p, h0, h⟩
theorem len_snoc {α : Type} {t : List α} {w : Nat} (h : t.length = w + 1) : ∃ s p, t = s ++ [p] ∧ s.length = w := by
  have hne : t ≠ [] := fun z => by rw [z] at h; cases h
  exact ⟨t.dropLast, t.getLast hne, (List.dropLast_concat_getLast hne).symm, by rw [List.length_dropLast, h]; rfl⟩
/-- the states are the counts of the kept prefixes -/
theorem mem_st : ∀ {w : Nat} {c : List Int}, c ∈ stAt L ls w ↔ ∃ t, t.length = w ∧ Kp L ls t ∧ cnt L.rows.length t = c
  | 0, c => by
    show c ∈ [_] ↔ _
    rw [List.mem_singleton]
    constructor
    · rintro rfl
      exact ⟨[], rfl, Kp.nil, rfl⟩
    · rintro ⟨t, h1, _, rfl⟩
      rw [List.eq_nil_of_length_eq_zero h1]
      rfl
  | w + 1, c => by
    show c ∈ (stAt L ls w).foldl (turnSt L ls (w + 1)) [] ↔ _
    rw [mem_stepSts]
    constructor
    · rintro (h | ⟨d, hd, p, h0, rfl, hw⟩)
      · cases h
      · obtain ⟨t, h1, h2, rfl⟩ := mem_st.mp hd
        exact ⟨t ++ [p], by rw [List.length_append, h1]; rfl, h2.snoc h0 (by rw [h1]; exact hw), cnt_snoc ..⟩
    · rintro ⟨t, h1, h2, rfl⟩
      obtain ⟨s, p, rfl, hs⟩ := len_snoc h1
      have hk := h2.take w
      rw [List.take_append_of_le_length (by omega), List.take_of_length_le (by omega)] at hk
      refine .inr ⟨cnt L.rows.length s, mem_st.mpr ⟨s, hs, hk, rfl⟩, p, h2.lt p (by simp), cnt_snoc .., ?_⟩
      have z := h2.ok w (by omega)
      rw [List.take_of_length_le (by omega)] at z
      exact z
theorem st_of (h : Kp L ls t) : cnt L.rows.length t ∈ stAt L ls t.length := mem_st.mpr ⟨t, rfl, h, rfl⟩
theorem st_within (h : c ∈ stAt L ls (w + 1)) : within L ls (w + 1) c = true := by
  obtain ⟨t, h1, h2, rfl⟩ := mem_st.mp h
  have z := h2.ok w (by omega)
  rw [List.take_of_length_le (by omega)] at z
  exact z
/-- the drawings that keep limits -/
def goods (L : Lay) (ls : List (List Nat × Int)) (W : Nat) : List (List Nat) := (drawsN L.rows.length W).filter (keptB L ls)
theorem keptB_iff : keptB L ls t = true ↔ ∀ i, i < t.length → within L ls (i + 1) (cnt L.rows.length (t.take (i + 1))) = true := by
  unfold keptB
  rw [List.all_eq_true]
  constructor
  · intro h i hi
    exact h i (List.mem_range.mpr hi)
  · intro h i hi
    exact h i (List.mem_range.mp hi)
theorem mem_goods : t ∈ goods L ls W ↔ t.length = W ∧ Kp L ls t := by
  unfold goods
  rw [List.mem_filter, drawsN_mem, keptB_iff]
  constructor
  · rintro ⟨⟨h1, h2⟩, h3⟩
    exact ⟨h1, h2, h3⟩
  · rintro ⟨h1, h2, h3⟩
    exact ⟨⟨h1, h2⟩, h3⟩
theorem nextIn_iff {up : List (List Int)} : nextIn up c = true ↔ ∃ p, p < c.length ∧ moreZ c p ∈ up := by
  unfold nextIn
  rw [List.any_eq_true]
  constructor
  · rintro ⟨p, h1, h2⟩
    exact ⟨p, List.mem_range.mp h1, of_decide_eq_true h2⟩
  · rintro ⟨p, h1, h2⟩
    exact ⟨p, List.mem_range.mpr h1, decide_eq_true h2⟩
/-- the kept states are the counts of the prefixes of the kept drawings -/
theorem mem_kept : ∀ (k : Nat) {w : Nat} {c : List Int}, w + k = W → (c ∈ keptAt L ls W w ↔ ∃ g ∈ goods L ls W, cnt L.rows.length (g.take w) = c)
  | 0, w, c, e => by
    have e : w = W := e
    subst e
    rw [keptAt_top, mem_st]
    constructor
    · rintro ⟨t, h1, h2, h3⟩
      exact ⟨t, mem_goods.mpr ⟨h1, h2⟩, by rw [List.take_of_length_le (by omega)]; exact h3⟩
    · rintro ⟨t, h, h3⟩
      obtain ⟨h1, h2⟩ := mem_goods.mp h
      rw [List.take_of_length_le (by omega)] at h3
      exact ⟨t, h1, h2, h3⟩
  | k + 1, w, c, e => by
    rw [keptAt_low (by omega), List.mem_filter, nextIn_iff]
    constructor
    · rintro ⟨h, p, hp, hm⟩
      obtain ⟨t, h1, h2, rfl⟩ := mem_st.mp h
      rw [cnt_len] at hp
      obtain ⟨g, hg, eg⟩ := (mem_kept k (by omega)).mp hm
      obtain ⟨g1, g2⟩ := mem_goods.mp hg
      have hs : Kp L ls (t ++ [p]) := h2.snoc hp (by
        rw [h1]
        exact st_within (by
          have z := st_of (g2.take (w + 1))
          rw [List.length_take, Nat.min_eq_left (by omega), eg] at z
          exact z))
      have hl : (t ++ [p]).length = w + 1 := by rw [List.length_append, h1]; rfl
      have hz := hs.splice g2 (by omega) (by rw [hl, cnt_snoc, eg])
      rw [hl] at hz
      refine ⟨_, mem_goods.mpr ⟨?_, hz⟩, ?_⟩
      · rw [List.length_append, hl, List.length_drop]; omega
      · rw [List.append_assoc, List.take_append_of_le_length (by omega), List.take_of_length_le (by omega)]
    · rintro ⟨g, hg, rfl⟩
      obtain ⟨g1, g2⟩ := mem_goods.mp hg
      have z := st_of (g2.take w)
      rw [List.length_take, Nat.min_eq_left (by omega)] at z
      refine ⟨z, g.getD w 0, ?_, ?_⟩
      · rw [cnt_len]
        refine g2.lt _ ?_
        rw [List.getD_eq_getElem?_getD, List.getElem?_eq_getElem (by omega)]
        exact List.getElem_mem _
      · refine (mem_kept k (by omega)).mpr ⟨g, hg, ?_⟩
        rw [← cnt_snoc]
        congr 1
        rw [List.getD_eq_getElem?_getD, List.getElem?_eq_getElem (by omega)]
        exact List.take_succ_eq_append_getElem (by omega)
theorem kept_iff (h : w ≤ W) : c ∈ keptAt L ls W w ↔ ∃ g ∈ goods L ls W, cnt L.rows.length (g.take w) = c := mem_kept (W - w) (by omega)
theorem take_snoc {α : Type} {l : List α} {i : Nat} (z : α) (h : i < l.length) : l.take (i + 1) = l.take i ++ [l.getD i z] := by
  rw [List.getD_eq_getElem?_getD, List.getElem?_eq_getElem h]
  exact List.take_succ_eq_append_getElem h
theorem getD_mem {l : List Nat} {i : Nat} (h : i < l.length) : l.getD i 0 ∈ l := by
  rw [List.getD_eq_getElem?_getD, List.getElem?_eq_getElem h]
  exact List.getElem_mem h
end
section
variable {L : Lay} {ls : List (List Nat × Int)} {t r dr g : List Nat} {c : List Int} {w p W i k : Nat}
/-! ### what moves -/
theorem mem_moveN {a b : List Nat} : k ∈ moveN a b ↔ k < a.length ∧ a.getD k 0 ≠ b.getD k 0 := by
  unfold moveN
  rw [List.mem_filter, List.mem_range]
  simp
/-- the pixels of a prefix that move -/
def mv (d t : List Nat) : Nat := ((List.range t.length).filter fun k => !decide (d.getD k 0 = t.getD k 0)).length
theorem mv_eq {a b : List Nat} (h : a.length = b.length) : mv a b = (moveN a b).length := by
  unfold mv moveN
  rw [h]
theorem getD_app {l r : List Nat} {i : Nat} (h : i < l.length) : (l ++ r).getD i 0 = l.getD i 0 := by
  rw [List.getD_eq_getElem?_getD, List.getD_eq_getElem?_getD, List.getElem?_append_left h]
theorem mv_snoc (d t : List Nat) (p : Nat) : mv d (t ++ [p]) = mv d t + (if (!decide (p = d.getD t.length 0)) = true then 1 else 0) := by
  unfold mv
  rw [List.length_append, List.length_singleton, List.range_succ, List.filter_append, List.length_append]
  congr 1
  · congr 1
    apply List.filter_congr
    intro k hk
    rw [getD_app (List.mem_range.mp hk)]
  · have e : (t ++ [p]).getD t.length 0 = p := by simp
    rw [List.filter_cons, e]
    by_cases h : p = d.getD t.length 0
    · rw [decide_eq_true h, decide_eq_true h.symm]; rfl
    · rw [decide_eq_false h, decide_eq_false (fun z => h z.symm)]; rfl
theorem movedN_eq {a b : List Nat} (h : a.length = b.length) : movedN a b = moveN a b := by
  have e : ((a.zip b).zipIdx) = (List.range a.length).map fun k => ((a.getD k 0, b.getD k 0), k) := by
    apply List.ext_getElem?
    intro k
    rw [List.getElem?_zipIdx, List.getElem?_map]
    by_cases hk : k < a.length
    · have h1 : a[k]? = some (a.getD k 0) := by rw [List.getD_eq_getElem?_getD, List.getElem?_eq_getElem hk]; rfl
      have h2 : b[k]? = some (b.getD k 0) := by rw [List.getD_eq_getElem?_getD, List.getElem?_eq_getElem (by omega)]; rfl
      have h3 : (a.zip b)[k]? = some (a.getD k 0, b.getD k 0) := by
        rw [List.getElem?_zip_eq_some]; exact ⟨h1, h2⟩
      rw [h3, List.getElem?_range hk]
      simp
    · rw [List.getElem?_eq_none (by rw [List.length_zip]; omega), List.getElem?_eq_none (l := List.range a.length) (by simp; omega)]
      rfl
  unfold movedN moveN
  rw [e, List.filter_map, List.map_map]
  have : ((fun (x : (Nat × Nat) × Nat) => x.2) ∘ fun k => ((a.getD k 0, b.getD k 0), k)) = id := rfl
  rw [this, List.map_id]
  rfl
/-! ### which must move, which can stay -/
theorem splice3 {t g : List Nat} (h : t ∈ goods L ls W) (h' : g ∈ goods L ls W) (hi : i < W) (hp : p < L.rows.length) (e : moreZ (cnt L.rows.length (t.take i)) p = cnt L.rows.length (g.take (i + 1))) : t.take i ++ [p] ++ g.drop (i + 1) ∈ goods L ls W := by
  obtain ⟨t1, t2⟩ := mem_goods.mp h
  obtain ⟨g1, g2⟩ := mem_goods.mp h'
  have hl : (t.take i).length = i := by rw [List.length_take]; omega
  have hs : Kp L ls (t.take i ++ [p]) := (t2.take i).snoc hp (by
    rw [hl, e]
    exact st_within (by
      have z := st_of (g2.take (i + 1))
      rw [List.length_take, Nat.min_eq_left (by omega)] at z
      exact z))
  have hl2 : (t.take i ++ [p]).length = i + 1 := by rw [List.length_append, hl]; rfl
  have hz := hs.splice g2 (by omega) (by rw [hl2, cnt_snoc, e])
  rw [hl2] at hz
  refine mem_goods.mpr ⟨?_, hz⟩
  rw [List.length_append, hl2, List.length_drop]; omega
theorem getD_mid {a b : List Nat} {i : Nat} (h : a.length = i) : (a ++ [p] ++ b).getD i 0 = p := by
  subst h
  rw [List.getD_eq_getElem?_getD, List.append_assoc, List.getElem?_append_right (Nat.le_refl _)]
  simp
theorem must_iff (hd : DrawOk L W dr) (hi : i < W) : mustB L ls W dr i = true ↔ ∀ g ∈ goods L ls W, i ∈ moveN dr g := by
  have hp : dr.getD i 0 < L.rows.length := hd.2 _ (getD_mem (by rw [hd.1]; exact hi))
  unfold mustB
  rw [Bool.not_eq_true', List.any_eq_false]
  constructor
  · intro h g hg
    obtain ⟨g1, g2⟩ := mem_goods.mp hg
    rw [mem_moveN]
    refine ⟨by rw [hd.1]; exact hi, fun e => ?_⟩
    refine h (cnt L.rows.length (g.take i)) ((kept_iff (by omega)).mpr ⟨g, hg, rfl⟩) (decide_eq_true ((kept_iff (by omega)).mpr ⟨g, hg, ?_⟩))
    rw [take_snoc 0 (by omega), cnt_snoc, e]
  · intro h c hc hm
    have hm := of_decide_eq_true hm
    obtain ⟨t, ht, rfl⟩ := (kept_iff (by omega)).mp hc
    obtain ⟨g, hg, e⟩ := (kept_iff (by omega)).mp hm
    have hn := h _ (splice3 ht hg hi hp e.symm)
    have hl : (t.take i).length = i := by rw [List.length_take, (mem_goods.mp ht).1]; omega
    exact (mem_moveN.mp hn).2 (getD_mid hl).symm
theorem must_eq (hd : DrawOk L W dr) : mustN L ls W dr = (List.range W).filter fun k => (((goods L ls W).map (moveN dr)).filter fun own => !decide (k ∈ own)).isEmpty := by
  unfold mustN
  apply List.filter_congr
  intro i hi
  rw [Bool.eq_iff_iff, must_iff hd (List.mem_range.mp hi), List.isEmpty_iff, List.filter_eq_nil_iff]
  constructor
  · intro h x hx
    obtain ⟨g, hg, rfl⟩ := List.mem_map.mp hx
    simp [h g hg]
  · intro h g hg
    have := h _ (List.mem_map.mpr ⟨g, hg, rfl⟩)
    simpa using this
theorem mem_lates {px : List Nat} {x : List Int} : ∀ (cs l : List (List Int)), x ∈ cs.foldl (lateF L dr px i) l ↔ x ∈ l ∨ ∃ c ∈ cs, ∃ p ∈ panesAt L dr px i, x = moreZ c p
  | [], l => by simp
  | c :: cs, l => by
    rw [List.foldl_cons, mem_lates cs]
    unfold lateF
    rw [mem_mergeB, List.mem_map]
    constructor
    · rintro ((h | ⟨p, hp, rfl⟩) | ⟨d, hd, h⟩)
      · exact .inl h
      · exact .inr ⟨c, List.mem_cons_self .., p, hp, rfl⟩
      · exact .inr ⟨d, List.mem_cons_of_mem _ hd, h⟩
    · rintro (h | ⟨d, hd, p, hp, rfl⟩)
      · exact .inl (.inl h)
      · rcases List.mem_cons.mp hd with rfl | hd
        · exact .inl (.inr ⟨p, hp, rfl⟩)
        · exact .inr ⟨d, hd, p, hp, rfl⟩
theorem mem_panes {px : List Nat} (hp : dr.getD i 0 < L.rows.length) : p ∈ panesAt L dr px i ↔ p < L.rows.length ∧ (i ∈ px → p = dr.getD i 0) := by
  unfold panesAt
  by_cases h : i ∈ px
  · rw [if_pos h, List.mem_singleton]
    constructor
    · rintro rfl
      exact ⟨hp, fun _ => rfl⟩
    · exact fun z => z.2 h
  · rw [if_neg h, List.mem_range]
    exact ⟨fun z => ⟨z, fun q => absurd q h⟩, fun z => z.1⟩
end
section
variable {L : Lay} {ls : List (List Nat × Int)} {t r dr g : List Nat} {c : List Int} {w p W i k : Nat}
/-- a prefix has the told pixels as dr has them -/
def Agrees (dr px t : List Nat) : Prop := ∀ k, k < t.length → k ∈ px → dr.getD k 0 = t.getD k 0
theorem getD_at {t : List Nat} {p : Nat} : (t ++ [p]).getD t.length 0 = p := by simp
theorem mem_now {px : List Nat} (hd : DrawOk L W dr) : ∀ {i : Nat} {c : List Int}, i ≤ W → (c ∈ nowAt L ls dr px i ↔ ∃ t, t.length = i ∧ Kp L ls t ∧ Agrees dr px t ∧ cnt L.rows.length t = c)
  | 0, c, _ => by
    show c ∈ [_] ↔ _
    rw [List.mem_singleton]
    constructor
    · rintro rfl
      exact ⟨[], rfl, Kp.nil, fun k hk => by simp at hk, rfl⟩
    · rintro ⟨t, h1, _, _, rfl⟩
      rw [List.eq_nil_of_length_eq_zero h1]
      rfl
  | i + 1, c, hi => by
    have hp : dr.getD i 0 < L.rows.length := hd.2 _ (getD_mem (by rw [hd.1]; omega))
    show c ∈ (_ : List (List Int)).filter _ ↔ _
    rw [List.mem_filter, mem_lates]
    constructor
    · rintro ⟨h | ⟨d, hm, p, h1, rfl⟩, h2⟩
      · cases h
      · obtain ⟨t, t1, t2, t3, rfl⟩ := (mem_now hd (by omega)).mp hm
        obtain ⟨q1, q2⟩ := (mem_panes hp).mp h1
        refine ⟨t ++ [p], by rw [List.length_append, t1]; rfl, t2.snoc q1 (by rw [t1]; exact st_within (of_decide_eq_true h2)), fun k hk hx => ?_, cnt_snoc ..⟩
        rw [List.length_append, List.length_singleton] at hk
        by_cases e : k = t.length
        · subst e
          rw [getD_at, t1]
          rw [t1] at hx
          exact (q2 hx).symm
        · rw [getD_app (by omega)]
          exact t3 k (by omega) hx
    · rintro ⟨t, h1, h2, h3, rfl⟩
      obtain ⟨s, p, rfl, hs⟩ := len_snoc h1
      have hk := h2.take i
      rw [List.take_append_of_le_length (by omega), List.take_of_length_le (by omega)] at hk
      refine ⟨.inr ⟨cnt L.rows.length s, (mem_now hd (by omega)).mpr ⟨s, hs, hk, fun k hk' hx => ?_, rfl⟩, p, (mem_panes hp).mpr ⟨h2.lt p (by simp), fun hx => ?_⟩, cnt_snoc ..⟩, decide_eq_true ?_⟩
      · have z := h3 k (by rw [List.length_append]; omega) hx
        rw [getD_app hk'] at z
        exact z
      · have z := h3 i (by omega) hx
        rw [← hs, getD_at] at z
        rw [← hs]; exact z.symm
      · have z := st_of h2
        rw [h1] at z
        exact z
theorem can_eq (hd : DrawOk L W dr) {px : List Nat} (hx : ∀ k ∈ px, k < W) : canB L ls W dr px = !(((goods L ls W).map (moveN dr)).filter fun far => (px.filter fun its => decide (its ∈ far)).isEmpty).isEmpty := by
  unfold canB
  congr 1
  rw [Bool.eq_iff_iff, decide_eq_true_iff, List.isEmpty_iff, List.filter_eq_nil_iff]
  constructor
  · intro h x hx'
    obtain ⟨g, hg, rfl⟩ := List.mem_map.mp hx'
    obtain ⟨g1, g2⟩ := mem_goods.mp hg
    rw [List.isEmpty_iff, List.filter_eq_nil_iff]
    intro hn
    have z : cnt L.rows.length g ∈ nowAt L ls dr px W := (mem_now hd (Nat.le_refl _)).mpr ⟨g, g1, g2, fun k hk hkx => by
      have := hn k hkx
      rw [decide_eq_true_iff, mem_moveN, hd.1] at this
      exact Classical.byContradiction fun q => this ⟨hx k hkx, q⟩, rfl⟩
    rw [h] at z
    cases z
  · intro h
    cases e : nowAt L ls dr px W with
    | nil => rfl
    | cons c cs =>
      obtain ⟨g, g1, g2, g3, _⟩ := (mem_now (c := c) hd (Nat.le_refl _)).mp (by rw [e]; exact List.mem_cons_self ..)
      refine absurd ?_ (h _ (List.mem_map.mpr ⟨g, mem_goods.mpr ⟨g1, g2⟩, rfl⟩))
      rw [List.isEmpty_iff, List.filter_eq_nil_iff]
      intro k hk
      rw [decide_eq_true_iff, mem_moveN]
      exact fun q => q.2 (g3 k (by rw [g1]; exact hx k hk) hk)
/-! ### how many first ones stay -/
theorem cntAt_eq {n : Nat} {d : List Nat} {i : Nat} : cntAt n d i = cnt n (d.take i) := rfl
theorem left_not (h : i < W) : leftB L ls W dr i = false ↔ cnt L.rows.length (dr.take (i + 1)) ∈ keptAt L ls W (i + 1) := by
  unfold leftB
  rw [cntAt_eq, Bool.not_eq_false', decide_eq_true_iff]
/-- the first m pixels can stay together -/
theorem stay_good (hd : DrawOk L W dr) {m : Nat} (hm : m ≤ W) (hne : goods L ls W ≠ []) (h : ∀ i, i < m → leftB L ls W dr i = false) : ∃ g ∈ goods L ls W, ∀ k, k < m → dr.getD k 0 = g.getD k 0 := by
  have h0 : cnt L.rows.length (dr.take m) ∈ keptAt L ls W m := by
    cases m with
    | zero =>
      cases e : goods L ls W with
      | nil => exact absurd e hne
      | cons g gs => exact (kept_iff (by omega)).mpr ⟨g, by rw [e]; exact List.mem_cons_self .., rfl⟩
    | succ m => exact (left_not (by omega)).mp (h m (by omega))
  obtain ⟨g, hg, e⟩ := (kept_iff hm).mp h0
  obtain ⟨g1, g2⟩ := mem_goods.mp hg
  have hl : (dr.take m).length = m := by rw [List.length_take, hd.1]; omega
  have hk : Kp L ls (dr.take m) := ⟨fun p hp => hd.2 p (List.mem_of_mem_take hp), fun i hi => by
    rw [hl] at hi
    rw [List.take_take, Nat.min_eq_left (by omega)]
    exact st_within (keptAt_sub (by omega) _ ((left_not (by omega)).mp (h i hi)))⟩
  have hz := hk.splice g2 (by omega) (by rw [hl]; exact e.symm)
  refine ⟨_, mem_goods.mpr ⟨?_, hz⟩, fun k hk' => ?_⟩
  · rw [List.length_append, hl, List.length_drop]; omega
  · rw [getD_app (by omega), List.getD_eq_getElem?_getD, List.getD_eq_getElem?_getD, List.getElem?_take, if_pos hk']
theorem stay_of (hd : DrawOk L W dr) (hg : g ∈ goods L ls W) {m : Nat} (hm : m ≤ W) (h : ∀ k, k < m → dr.getD k 0 = g.getD k 0) : ∀ i, i < m → leftB L ls W dr i = false := fun i hi => by
  obtain ⟨g1, g2⟩ := mem_goods.mp hg
  refine (left_not (by omega)).mpr ((kept_iff (by omega)).mpr ⟨g, hg, ?_⟩)
  congr 1
  apply List.ext_getElem?
  intro k
  by_cases hk : k < i + 1
  · rw [List.getElem?_take, List.getElem?_take, if_pos hk, if_pos hk, List.getElem?_eq_getElem (by omega), List.getElem?_eq_getElem (by rw [hd.1]; omega)]
    have z := h k (by omega)
    rw [List.getD_eq_getElem?_getD, List.getD_eq_getElem?_getD, List.getElem?_eq_getElem (l := dr) (by rw [hd.1]; omega), List.getElem?_eq_getElem (l := g) (by omega)] at z
    exact congrArg some z.symm
  · rw [List.getElem?_take, List.getElem?_take, if_neg hk, if_neg hk]
def frstZ (W : Nat) (own : List Nat) : Int := minZ ((own ++ [W]).map fun (k : Nat) => (k : Int))
theorem frst_is (own : List Nat) : (∀ k ∈ own, frstZ W own ≤ k) ∧ frstZ W own ≤ W ∧ (frstZ W own = W ∨ ∃ k ∈ own, frstZ W own = k) := by
  have hne : ((own ++ [W]).map fun (k : Nat) => (k : Int)) ≠ [] := by simp
  obtain ⟨h1, h2⟩ := minZ_is hne
  refine ⟨fun k hk => h2 _ (List.mem_map.mpr ⟨k, List.mem_append_left _ hk, rfl⟩), h2 _ (List.mem_map.mpr ⟨W, by simp, rfl⟩), ?_⟩
  obtain ⟨k, hk, e⟩ := List.mem_map.mp h1
  rcases List.mem_append.mp hk with hk | hk
  · exact .inr ⟨k, hk, e.symm⟩
  · rw [List.mem_singleton.mp hk] at e
    exact .inl e.symm
theorem stay_eq (hd : DrawOk L W dr) : (stayO L ls W dr).map (fun (n : Nat) => (n : Int)) = if goods L ls W = [] then none else some (maxZ (((goods L ls W).map (moveN dr)).map (frstZ W))) := by
  unfold stayO
  by_cases hne : goods L ls W = []
  · rw [if_pos hne, if_neg]
    · rfl
    · intro h
      obtain ⟨g, hg, _⟩ := (kept_iff (by omega)).mp h
      rw [hne] at hg
      cases hg
  · rw [if_neg hne]
    obtain ⟨g0, hg0⟩ : ∃ g0, g0 ∈ goods L ls W := List.exists_mem_of_ne_nil _ hne
    have h00 : List.replicate L.rows.length 0 ∈ keptAt L ls W 0 := (kept_iff (by omega)).mpr ⟨g0, hg0, rfl⟩
    rw [if_pos h00]
    show some _ = some _
    congr 1
    have hm : ∃ m, ((List.range W).find? (leftB L ls W dr)).getD W = m ∧ m ≤ W ∧ (∀ i, i < m → leftB L ls W dr i = false) ∧ (m < W → leftB L ls W dr m = true) := by
      cases e : (List.range W).find? (leftB L ls W dr) with
      | none =>
        refine ⟨W, rfl, Nat.le_refl _, fun i hi => ?_, fun z => absurd z (by omega)⟩
        have := List.find?_eq_none.mp e i (List.mem_range.mpr hi)
        simpa using this
      | some m =>
        rw [List.find?_eq_some_iff_getElem] at e
        obtain ⟨h1, j, hj, e2, h3⟩ := e
        rw [List.getElem_range] at e2
        subst e2
        rw [List.length_range] at hj
        refine ⟨j, rfl, by omega, fun i hi => ?_, fun _ => h1⟩
        have := h3 i hi
        rw [List.getElem_range] at this
        simpa using this
    obtain ⟨m, e, m1, m2, m3⟩ := hm
    rw [e]
    have hn2 : (((goods L ls W).map (moveN dr)).map (frstZ W)) ≠ [] := by simpa using hne
    obtain ⟨h1, h2⟩ := maxZ_is hn2
    obtain ⟨g, hg, hs⟩ := stay_good hd m1 hne m2
    have u1 : ((m : Nat) : Int) ≤ frstZ W (moveN dr g) := by
      rcases (frst_is (W := W) (moveN dr g)).2.2 with z | ⟨k, hk, z⟩
      · omega
      · have hk := mem_moveN.mp hk
        have : ¬ k < m := fun q => hk.2 (hs k q)
        omega
    have u2 := h2 _ (List.mem_map.mpr ⟨_, List.mem_map.mpr ⟨g, hg, rfl⟩, rfl⟩)
    obtain ⟨o, ho, e3⟩ := List.mem_map.mp h1
    obtain ⟨g', hg', e4⟩ := List.mem_map.mp ho
    subst e4
    obtain ⟨f1, f2, _⟩ := frst_is (W := W) (moveN dr g')
    rw [e3] at f1 f2
    show ((m : Nat) : Int) = _
    refine Int.le_antisymm (by omega) ?_
    refine Int.not_lt.mp fun hlt => ?_
    have hmw : m < W := by omega
    have hz := stay_of hd hg' (m := m + 1) (by omega) (fun k hk => Classical.byContradiction fun q => by
      have := f1 k (mem_moveN.mpr ⟨by rw [hd.1]; omega, q⟩)
      omega)
    have := hz m (by omega)
    rw [m3 hmw] at this
    cases this
end
section
variable {L : Lay} {ls : List (List Nat × Int)} {t r dr g d : List Nat} {c : List Int} {w p W i k : Nat}
/-! ### costs -/
theorem cost_mem {u : Int} (h : lookZ (costAt L ls d w) c = some u) : c ∈ stAt L ls w := (costAt_ok L ls d w).2 c (List.mem_map.mpr ⟨(c, u), lookZ_some h, rfl⟩)
theorem cost_zero {u : Int} (h : lookZ (costAt L ls d 0) c = some u) : c = List.replicate L.rows.length 0 ∧ u = 0 := by
  have z := lookZ_some h
  have e : costAt L ls d 0 = [(List.replicate L.rows.length 0, 0)] := rfl
  rw [e, List.mem_singleton] at z
  exact ⟨congrArg Prod.fst z, congrArg Prod.snd z⟩
theorem costZ_mv (d t : List Nat) (p : Nat) : costZ (mv d t : Nat) p (d.getD t.length 0) = (mv d (t ++ [p]) : Nat) := by
  rw [mv_snoc]
  unfold costZ
  split <;> simp
/-- a cost is what some kept prefix moves -/
theorem cost_low : ∀ {w : Nat} {c : List Int} {u : Int}, lookZ (costAt L ls d w) c = some u → ∃ t, t.length = w ∧ Kp L ls t ∧ cnt L.rows.length t = c ∧ ((mv d t : Nat) : Int) = u
  | 0, c, u, h => by
    obtain ⟨rfl, rfl⟩ := cost_zero h
    exact ⟨[], rfl, Kp.nil, rfl, rfl⟩
  | w + 1, c, v, h => by
    obtain ⟨b, u, own, h1, h2, rfl, rfl, h3⟩ := cost_from h
    obtain ⟨t, t1, t2, rfl, rfl⟩ := cost_low h1
    rw [cnt_len] at h2
    refine ⟨t ++ [own], by rw [List.length_append, t1]; rfl, t2.snoc h2 (by rw [t1]; exact st_within h3), cnt_snoc .., ?_⟩
    rw [← costZ_mv, t1]
/-- a kept prefix moves no less than its counts cost -/
theorem cost_up : ∀ {w : Nat} {t : List Nat}, t.length = w → Kp L ls t → ∃ v, lookZ (costAt L ls d w) (cnt L.rows.length t) = some v ∧ v ≤ (mv d t : Nat)
  | 0, t, h, _ => by
    rw [List.eq_nil_of_length_eq_zero h]
    refine ⟨0, ?_, Int.le_refl _⟩
    have e : costAt L ls d 0 = [(cnt L.rows.length [], 0)] := rfl
    rw [e]
    simp [lookZ]
  | w + 1, t, h, hk => by
    obtain ⟨s, p, rfl, hs⟩ := len_snoc h
    have hk' := hk.take w
    rw [List.take_append_of_le_length (by omega), List.take_of_length_le (by omega)] at hk'
    obtain ⟨u, h1, h2⟩ := cost_up hs hk'
    have z := st_of hk
    rw [h, cnt_snoc] at z
    obtain ⟨v, h3, h4⟩ := cost_to h1 (own := p) (by rw [cnt_len]; exact hk.lt p (by simp)) z
    refine ⟨v, by rw [cnt_snoc]; exact h3, Int.le_trans h4 ?_⟩
    rw [← costZ_mv, hs]
    unfold costZ
    omega
theorem cost_nil : costAt L ls dr W = [] ↔ goods L ls W = [] := by
  constructor
  · intro h
    cases e : goods L ls W with
    | nil => rfl
    | cons g gs =>
      obtain ⟨g1, g2⟩ := mem_goods.mp (show g ∈ goods L ls W by rw [e]; exact List.mem_cons_self ..)
      obtain ⟨v, h1, _⟩ := cost_up (d := dr) g1 g2
      rw [h] at h1
      cases h1
  · intro h
    cases e : costAt L ls dr W with
    | nil => rfl
    | cons q qs =>
      have hq : q ∈ costAt L ls dr W := by rw [e]; exact List.mem_cons_self ..
      obtain ⟨t, t1, t2, _⟩ := cost_low (costs_look hq)
      have z := mem_goods.mpr ⟨t1, t2⟩
      rw [h] at z
      cases z
/-- the fewest pixels that move to a kept drawing -/
def fewZ (L : Lay) (ls : List (List Nat × Int)) (W : Nat) (dr : List Nat) : Int := minZ (((goods L ls W).map (moveN dr)).map fun own => ((own.length : Nat) : Int))
theorem few_is (h : goods L ls W ≠ []) : (∃ g ∈ goods L ls W, fewZ L ls W dr = ((moveN dr g).length : Nat)) ∧ ∀ g ∈ goods L ls W, fewZ L ls W dr ≤ ((moveN dr g).length : Nat) := by
  obtain ⟨h1, h2⟩ := minZ_is (ns := ((goods L ls W).map (moveN dr)).map fun own => ((own.length : Nat) : Int)) (by simpa using h)
  refine ⟨?_, fun g hg => h2 _ (List.mem_map.mpr ⟨_, List.mem_map.mpr ⟨g, hg, rfl⟩, rfl⟩)⟩
  obtain ⟨o, ho, e⟩ := List.mem_map.mp h1
  obtain ⟨g, hg, rfl⟩ := List.mem_map.mp ho
  exact ⟨g, hg, e.symm⟩
theorem min_cost (hd : dr.length = W) (h : goods L ls W ≠ []) : minZ ((costAt L ls dr W).map (·.2)) = fewZ L ls W dr := by
  have hne : costAt L ls dr W ≠ [] := fun z => h (cost_nil.mp z)
  obtain ⟨h1, h2⟩ := minZ_is (ns := (costAt L ls dr W).map (·.2)) (by simpa using hne)
  obtain ⟨⟨g, hg, e⟩, h4⟩ := few_is (dr := dr) h
  refine Int.le_antisymm ?_ ?_
  · obtain ⟨g1, g2⟩ := mem_goods.mp hg
    obtain ⟨v, l1, l2⟩ := cost_up (d := dr) g1 g2
    rw [mv_eq (by omega)] at l2
    rw [e]
    exact Int.le_trans (h2 _ (List.mem_map.mpr ⟨_, lookZ_some l1, rfl⟩)) l2
  · obtain ⟨q, hq, eq⟩ := List.mem_map.mp h1
    obtain ⟨t, t1, t2, t3, t4⟩ := cost_low (costs_look hq)
    rw [mv_eq (by omega)] at t4
    rw [← eq, ← t4]
    exact h4 t (mem_goods.mpr ⟨t1, t2⟩)
theorem few_eq (hd : dr.length = W) : fewO L ls dr W = if goods L ls W = [] then none else some (fewZ L ls W dr) := by
  unfold fewO
  by_cases h : goods L ls W = []
  · rw [if_pos h, if_pos (cost_nil.mpr h)]
  · rw [if_neg h, if_neg (fun z => h (cost_nil.mp z)), min_cost hd h]
/-! ### a drawing with so few -/
theorem wayK_get {j : Nat} (hj : j < W) : (wayK L ls d W W).reverse.getD j 0 = paneK L ls d W (W - 1 - j) (nowK L ls d W (W - 1 - j)) := by
  have hl : (wayK L ls d W W).length = W := by unfold wayK; simp
  rw [List.getD_eq_getElem?_getD, List.getElem?_reverse (by omega), hl]
  unfold wayK
  rw [List.getElem?_map, List.getElem?_range (by omega)]
  rfl
theorem wayK_len : (wayK L ls d W W).reverse.length = W := by unfold wayK; simp
theorem way_ok (h : costAt L ls d W ≠ []) : ∀ j, j ≤ W → Kp L ls ((wayK L ls d W W).reverse.take j) ∧ cnt L.rows.length ((wayK L ls d W W).reverse.take j) = nowK L ls d W (W - j) ∧ lookZ (costAt L ls d j) (nowK L ls d W (W - j)) = some ((mv d ((wayK L ls d W W).reverse.take j) : Nat) : Int)
  | 0, _ => by
    obtain ⟨m, hm⟩ := nowK_ok h W (Nat.le_refl _)
    rw [Nat.sub_self] at hm
    obtain ⟨e1, e2⟩ := cost_zero hm
    rw [e2] at hm
    rw [List.take_zero]
    refine ⟨Kp.nil, ?_, ?_⟩
    · rw [Nat.sub_zero, e1]; rfl
    · rw [Nat.sub_zero, hm]; rfl
  | j + 1, hj => by
    obtain ⟨i1, i2, i3⟩ := way_ok h j (by omega)
    obtain ⟨m, k1, k2, k3⟩ := nowK_step h (k := W - (j + 1)) (by omega)
    have e1 : W - (W - (j + 1)) = j + 1 := by omega
    have e2 : W - 1 - (W - (j + 1)) = j := by omega
    have e3 : W - 1 - j = W - (j + 1) := by omega
    have e4 : W - j = W - (j + 1) + 1 := by omega
    rw [e1] at k1
    rw [e2] at k2
    have hp := wayK_get (L := L) (ls := ls) (d := d) (W := W) (j := j) (by omega)
    rw [e3] at hp
    have hst := cost_mem k1
    have hn : nowK L ls d W (W - j) = lessZ (nowK L ls d W (W - (j + 1))) (paneK L ls d W (W - (j + 1)) (nowK L ls d W (W - (j + 1)))) := by rw [e4]; rfl
    have hts : (wayK L ls d W W).reverse.take (j + 1) = (wayK L ls d W W).reverse.take j ++ [paneK L ls d W (W - (j + 1)) (nowK L ls d W (W - (j + 1)))] := by
      rw [take_snoc 0 (by rw [wayK_len]; omega), hp]
    have hlen : ((wayK L ls d W W).reverse.take j).length = j := by rw [List.length_take, wayK_len]; omega
    have hc : cnt L.rows.length ((wayK L ls d W W).reverse.take (j + 1)) = nowK L ls d W (W - (j + 1)) := by
      rw [hts, cnt_snoc, i2, hn, more_less]
    refine ⟨?_, hc, ?_⟩
    · rw [hts]
      refine i1.snoc ?_ ?_
      · rw [stAt_len _ _ hst] at k3
        exact k3
      · rw [hlen, i2, hn, more_less]
        exact st_within hst
    · rw [k1, hts, ← costZ_mv, hlen]
      congr 1
      unfold backO at k2
      have k2 := List.find?_some k2
      unfold backB at k2
      have k2 := of_decide_eq_true k2
      rw [← hn, i3] at k2
      have k2 := Option.some.inj k2
      unfold costZ
      omega
theorem least_eq (hd : dr.length = W) : (goods L ls W = [] → leastO L ls dr W = none) ∧ (goods L ls W ≠ [] → ∃ t, leastO L ls dr W = some t ∧ t ∈ goods L ls W ∧ ((moveN dr t).length : Nat) = fewZ L ls W dr) := by
  unfold leastO
  refine ⟨fun h => if_pos (cost_nil.mpr h), fun h => ?_⟩
  have hne : costAt L ls dr W ≠ [] := fun z => h (cost_nil.mp z)
  obtain ⟨h1, h2, h3⟩ := way_ok hne W (Nat.le_refl _)
  rw [List.take_of_length_le (by rw [wayK_len]; omega)] at h1 h2 h3
  refine ⟨_, if_neg hne, mem_goods.mpr ⟨wayK_len, h1⟩, ?_⟩
  obtain ⟨q, b1', b2, b3⟩ := best_spec hne
  have b1 := List.mem_of_getElem? b1'
  have hb : nowK L ls dr W (W - W) = bestC (costAt L ls dr W) := by rw [Nat.sub_self]; rfl
  rw [hb, b2, costs_look b1] at h3
  have h3 := Option.some.inj h3
  rw [mv_eq (by rw [wayK_len]; omega)] at h3
  rw [← h3, ← min_cost hd h]
  obtain ⟨m1, m2⟩ := minZ_is (ns := (costAt L ls dr W).map (·.2)) (by simpa using hne)
  obtain ⟨q2, hq2, e⟩ := List.mem_map.mp m1
  refine Int.le_antisymm ?_ (m2 _ (List.mem_map.mpr ⟨q, b1, rfl⟩))
  rw [← e]
  exact b3 q2 hq2
/-- what is one -/
theorem thing_eq (hd : dr.length = W) (ht : drawB L W t = true) : (keptB L ls t && decide (((movedN dr t).length : Int) = minZ ((costAt L ls dr W).map (·.2)))) = (decide (t ∈ goods L ls W) && decide (((moveN dr t).length : Int) = fewZ L ls W dr)) := by
  unfold drawB at ht
  rw [Bool.and_eq_true, decide_eq_true_iff, List.all_eq_true] at ht
  by_cases h : t ∈ goods L ls W
  · have hne : goods L ls W ≠ [] := fun z => by rw [z] at h; cases h
    obtain ⟨t1, t2⟩ := mem_goods.mp h
    rw [decide_eq_true h, keptB_iff.mpr t2.ok, min_cost hd hne, movedN_eq (by omega)]
  · rw [decide_eq_false h]
    have : keptB L ls t = false := by
      cases e : keptB L ls t with
      | false => rfl
      | true => exact absurd (mem_goods.mpr ⟨ht.1, fun p hp => of_decide_eq_true (ht.2 p hp), keptB_iff.mp e⟩) h
    rw [this]
    rfl
end
/-- what the sums ask of a layout and limits beside their form -/
structure Nice (L : Lay) (W : Nat) (ls : List (List Nat × Int)) : Prop where
  hL : L.Ok W
  hl : LimsOk L ls
  z0 : ∀ p, p < L.rows.length → (L.rows.getD p []).getD 0 0 = 0
  nd : ∀ l ∈ ls, l.1.Nodup
  pos : ∀ l ∈ ls, 0 ≤ l.2
section
variable {L : Lay} {ls : List (List Nat × Int)} {t r dr g d : List Nat} {c : List Int} {w p W i k : Nat} {l : List Nat × Int}
/-! ### rows of groups -/
theorem more_get {q : Nat} (h : p < c.length) : (moreZ c p).getD q 0 = c.getD q 0 + (if p = q then 1 else 0) := by
  unfold moreZ
  rw [List.getD_eq_getElem?_getD, List.getElem?_set]
  by_cases e : p = q
  · subst e
    rw [if_pos rfl, if_pos h, if_pos rfl]
    rfl
  · rw [if_neg e, if_neg e, List.getD_eq_getElem?_getD, Int.add_zero]
theorem count_more (h : p < c.length) : ∀ {g : List Nat}, g.Nodup → countOf (moreZ c p) g = countOf c g + (if p ∈ g then 1 else 0)
  | [], _ => by simp [countOf]
  | q :: g, hn => by
    rw [List.nodup_cons] at hn
    have ih := count_more h hn.2
    unfold countOf at ih ⊢
    rw [List.map_cons, List.map_cons, List.sum_cons, List.sum_cons, ih, more_get h]
    by_cases e : p = q
    · subst e
      rw [if_pos rfl, if_neg hn.1, if_pos (List.mem_cons_self ..)]
      omega
    · rw [if_neg e]
      by_cases m : p ∈ g
      · rw [if_pos m, if_pos (List.mem_cons_of_mem _ m)]; omega
      · rw [if_neg m, if_neg (fun z => (List.mem_cons.mp z).elim e m)]; omega
theorem count_zero {n : Nat} : ∀ g : List Nat, countOf (List.replicate n 0) g = 0
  | [] => rfl
  | q :: g => by
    have ih := count_zero (n := n) g
    unfold countOf at ih ⊢
    rw [List.map_cons, List.sum_cons, ih, List.getD_eq_getElem?_getD, List.getElem?_replicate]
    split <;> rfl
theorem count_cnt {n : Nat} (hg : g.Nodup) (hd : ∀ p ∈ d, p < n) : ∀ {w : Nat}, w ≤ d.length → countOf (cnt n (d.take w)) g = cntIn d g w
  | 0, _ => by
    rw [List.take_zero]
    exact count_zero g
  | w + 1, hw => by
    have h1 : d[w]? = some (d.getD w 0) := by rw [List.getD_eq_getElem?_getD, List.getElem?_eq_getElem (by omega)]; rfl
    rw [take_snoc 0 (by omega), cnt_snoc, count_more (by rw [cnt_len]; exact hd _ (getD_mem (by omega))) hg, count_cnt hg hd (by omega), cntIn_succ h1]
theorem cntIn_app {d : List Nat} (p : Nat) {w : Nat} (h : w ≤ d.length) : cntIn (d ++ [p]) g w = cntIn d g w := by
  unfold cntIn
  rw [List.take_append_of_le_length h]
theorem row_eq (g : List Nat) : ∀ (n : Nat) (d : List Nat), d.length = n → rowOf d g = (List.range (n + 1)).map fun w => cntIn d g w
  | 0, d, h => by
    rw [List.eq_nil_of_length_eq_zero h]
    rfl
  | n + 1, d, h => by
    obtain ⟨s, p, rfl, hs⟩ := len_snoc h
    rw [rowOf_snoc, row_eq g n s hs, List.range_succ (n := n + 1), List.map_append]
    congr 1
    · apply List.map_congr_left
      intro w hw
      rw [cntIn_app p (by rw [hs]; have := List.mem_range.mp hw; omega)]
    · rw [List.map_singleton]
      congr 1
      have h1 : (s ++ [p])[n]? = some p := by rw [List.getElem?_append_right (by omega), hs]; simp
      rw [cntIn_succ h1, cntIn_app p (by omega), List.range_succ, List.map_append]
      simp
theorem row_get (h : d.length = W) (hw : w ≤ W) : (rowOf d g).getD w 0 = cntIn d g w := by
  rw [row_eq g W d h, List.getD_eq_getElem?_getD, List.getElem?_map, List.getElem?_range (by omega)]
  rfl
theorem exact_zero (h : Nice L W ls) (hl : l ∈ ls) : exactAt L l.1 0 = 0 := by
  have := h.hl.ix l hl
  unfold exactAt
  generalize l.1 = g at this
  induction g with
  | nil => rfl
  | cons q g ih =>
    rw [List.map_cons, List.sum_cons, ih (fun p hp => this p (List.mem_cons_of_mem _ hp)), h.z0 q (this q (List.mem_cons_self ..))]
    rfl
theorem off_zero (h : Nice L W ls) (hl : l ∈ ls) : offAt L l.1 0 0 = 0 := by
  unfold offAt
  rw [exact_zero h hl]
  simp
theorem off_le (h : d.length = W) {x : Int} : rowOff L g (rowOf d g) ≤ x ↔ ∀ w, w ≤ W → offAt L g w (cntIn d g w) ≤ x := by
  have e : (rowOf d g).zipIdx.map (fun p => offAt L g p.2 p.1) = (List.range (W + 1)).map fun w => offAt L g w (cntIn d g w) := by
    rw [row_eq g W d h]
    apply List.ext_getElem?
    intro j
    rw [List.getElem?_map, List.getElem?_zipIdx, List.getElem?_map, List.getElem?_map]
    by_cases hj : j < W + 1
    · rw [List.getElem?_range hj]
      simp
    · rw [List.getElem?_eq_none (by simp; omega)]
      rfl
  unfold rowOff
  rw [e]
  obtain ⟨h1, h2⟩ := maxZ_is (ns := (List.range (W + 1)).map fun w => offAt L g w (cntIn d g w)) (by simp)
  constructor
  · intro hx w hw
    exact Int.le_trans (h2 _ (List.mem_map.mpr ⟨w, List.mem_range.mpr (by omega), rfl⟩)) hx
  · intro hx
    obtain ⟨w, hw, e⟩ := List.mem_map.mp h1
    rw [← e]
    exact hx w (by have := List.mem_range.mp hw; omega)
theorem within_iff : within L ls w c = true ↔ ∀ l ∈ ls, offAt L l.1 w (countOf c l.1) ≤ l.2 := by
  unfold within
  rw [Bool.not_eq_true', List.any_eq_false]
  constructor
  · intro h l hl
    have := h l hl
    rw [decide_eq_true_iff] at this
    omega
  · intro h l hl
    have := h l hl
    rw [decide_eq_true_iff]
    omega
theorem kept_off (h : Nice L W ls) (hd : DrawOk L W d) : keptB L ls d = true ↔ ∀ l ∈ ls, ∀ w, w ≤ W → offAt L l.1 w (cntIn d l.1 w) ≤ l.2 := by
  rw [keptB_iff]
  constructor
  · intro hk l hl w hw
    cases w with
    | zero => rw [cntIn_zero, off_zero h hl]; exact h.pos l hl
    | succ w =>
      have z := within_iff.mp (hk w (by rw [hd.1]; omega)) l hl
      rw [count_cnt (h.nd l hl) hd.2 (by rw [hd.1]; omega)] at z
      exact z
  · intro hk i hi
    rw [within_iff]
    intro l hl
    rw [count_cnt (h.nd l hl) hd.2 (by omega)]
    exact hk l hl (i + 1) (by rw [← hd.1]; omega)
theorem keeps_eq (h : Nice L W ls) (hd : DrawOk L W d) : keepsL L d ls = keptB L ls d := by
  rw [Bool.eq_iff_iff, kept_off h hd]
  unfold keepsL
  rw [List.isEmpty_iff, List.filter_eq_nil_iff]
  constructor
  · intro hk l hl
    have := hk l hl
    rw [decide_eq_true_iff] at this
    exact (off_le hd.1).mp (by omega)
  · intro hk l hl
    have := (off_le hd.1).mpr (hk l hl)
    rw [decide_eq_true_iff]
    omega
theorem goods_eq (h : Nice L W ls) : (drawsN L.rows.length W).filter (fun own => keepsL L own ls) = goods L ls W := by
  unfold goods
  apply List.filter_congr
  intro t ht
  exact keeps_eq h (drawsN_mem.mp ht)
/-! ### out of bounds -/
theorem lo_hi_iff (p0 : 0 < L.parts) {off k : Int} (h0 : 0 ≤ k) : offAt L g w k ≤ off ↔ max 0 (0 - (off - exactAt L g w) / L.parts) ≤ k ∧ k ≤ (exactAt L g w + off) / L.parts := by
  have a1 : k ≤ (exactAt L g w + off) / L.parts ↔ k * L.parts ≤ exactAt L g w + off := Int.le_ediv_iff_mul_le p0
  have a2 : -k ≤ (off - exactAt L g w) / L.parts ↔ -k * L.parts ≤ off - exactAt L g w := Int.le_ediv_iff_mul_le p0
  rw [Int.neg_mul] at a2
  unfold offAt
  generalize k * L.parts = m at *
  omega
theorem range_from (a b : Nat) : (List.range (a + b)).filter (fun k => decide (a ≤ k)) = (List.range b).map fun k => a + k := by
  rw [List.range_add, List.filter_append]
  have e1 : (List.range a).filter (fun k => decide (a ≤ k)) = [] := by
    rw [List.filter_eq_nil_iff]
    intro k hk
    have := List.mem_range.mp hk
    rw [decide_eq_true_iff]
    omega
  have e2 : ((List.range b).map fun k => a + k).filter (fun k => decide (a ≤ k)) = (List.range b).map fun k => a + k := by
    rw [List.filter_eq_self]
    intro k hk
    obtain ⟨j, _, rfl⟩ := List.mem_map.mp hk
    rw [decide_eq_true_iff]
    omega
  rw [e1, e2, List.nil_append]
theorem goods_at (p0 : 0 < L.parts) {off : Int} (hw : 0 < w) : goodsAt L g off w = (List.range ((hiAt L g off w + 1) - loAt L g off w).toNat).map fun (k : Nat) => loAt L g off w + k := by
  unfold goodsAt loAt hiAt
  rw [if_pos hw, if_neg (by omega), if_neg (by omega)]
  generalize hm : (exactAt L g w + off) / L.parts = hi
  generalize hq : max 0 (0 - (off - exactAt L g w) / L.parts) = lo
  have hf : (List.range (hi + 1).toNat).filter (fun (k : Nat) => decide (offAt L g w (k : Int) ≤ off)) = (List.range (hi + 1).toNat).filter (fun k => decide (lo.toNat ≤ k)) := by
    apply List.filter_congr
    intro k hk
    have := List.mem_range.mp hk
    rw [Bool.eq_iff_iff, decide_eq_true_iff, decide_eq_true_iff, lo_hi_iff p0 (by omega), hm, hq]
    omega
  rw [hf]
  by_cases h : lo ≤ hi + 1
  · have e : (hi + 1).toNat = lo.toNat + ((hi + 1) - lo).toNat := by omega
    rw [e, range_from, List.map_map]
    apply List.map_congr_left
    intro k _
    show (((lo.toNat + k : Nat)) : Int) = lo + k
    omega
  · have e : ((hi + 1) - lo).toNat = 0 := by omega
    rw [e]
    have : (List.range (hi + 1).toNat).filter (fun k => decide (lo.toNat ≤ k)) = [] := by
      rw [List.filter_eq_nil_iff]
      intro k hk
      have := List.mem_range.mp hk
      rw [decide_eq_true_iff]
      omega
    rw [this]
    rfl
theorem goods_ends (p0 : 0 < L.parts) {off : Int} : (goodsAt L g off w).isEmpty = decide (hiAt L g off w < loAt L g off w) ∧ (loAt L g off w ≤ hiAt L g off w → (goodsAt L g off w).headD 0 = loAt L g off w ∧ (goodsAt L g off w).getLastD 0 = hiAt L g off w) := by
  by_cases hw : 0 < w
  · rw [goods_at p0 hw]
    generalize hiAt L g off w = hi
    generalize loAt L g off w = lo
    constructor
    · rw [Bool.eq_iff_iff, List.isEmpty_iff, List.map_eq_nil_iff, List.range_eq_nil, decide_eq_true_iff]
      omega
    · intro h
      obtain ⟨n, hn⟩ : ∃ n, (hi + 1 - lo).toNat = n + 1 := ⟨(hi - lo).toNat, by omega⟩
      rw [hn]
      constructor
      · rw [List.range_succ_eq_map]
        simp
      · rw [List.range_succ, List.map_append]
        simp
        omega
  · have : w = 0 := by omega
    subst this
    unfold goodsAt loAt hiAt
    simp
theorem out_eq (h : Nice L W ls) (hd : DrawOk L W dr) : outO L dr W ls = lawOut L dr W ls := by
  have p0 := h.hL.p0
  have hb : ∀ l, badL L dr W l = badG L W l := fun l => by
    unfold badL badG
    congr 1
    funext w
    unfold outL outAt
    rw [(goods_ends p0).1]
    by_cases e : hiAt L l.1 l.2 w < loAt L l.1 l.2 w
    · rw [if_pos e, decide_eq_true e]; rfl
    · rw [if_neg e, decide_eq_false e]; rfl
  unfold outO lawOut
  have e1 : ls.any (badL L dr W) = ls.any (badG L W) := by
    congr 1
    funext l
    exact hb l
  rw [e1]
  by_cases hx : ls.any (badG L W) = true
  · rw [if_pos hx, if_pos hx]
  · rw [if_neg hx, if_neg hx]
    congr 1
    have hx' : ∀ l ∈ ls, badG L W l = false := by
      intro l hl
      have := List.any_eq_false.mp (Bool.eq_false_iff.mpr hx) l hl
      simpa using this
    unfold fdL goodL
    have step : ∀ l ∈ ls, ∀ (n : Nat), n ≤ W + 1 → ∀ s : Int, 0 ≤ s → fdW L dr l s n = goodW L dr l s n ∧ 0 ≤ goodW L dr l s n := by
      intro l hl n
      induction n with
      | zero => intro _ s hs; exact ⟨rfl, hs⟩
      | succ n ih =>
        intro hn s hs
        obtain ⟨i1, i2⟩ := ih (by omega) s hs
        have e2 : fdW L dr l s (n + 1) = max (fdW L dr l s n) ((outL L dr l n).getD 0) := by
          unfold fdW
          rw [List.range_succ, List.foldl_append]
          rfl
        have e3 : goodW L dr l s (n + 1) = goodF L dr l (goodW L dr l s n) n := by
          unfold goodW
          rw [List.range_succ, List.foldl_append]
          rfl
        rw [e2, e3, i1]
        have hb2 := List.any_eq_false.mp (hx' l hl) n (List.mem_range.mpr (by omega))
        obtain ⟨g1, g2⟩ := goods_ends (L := L) (g := l.1) (w := n) (off := l.2) p0
        rw [g1, decide_eq_true_iff] at hb2
        obtain ⟨g3, g4⟩ := g2 (by omega)
        unfold goodF outL outAt
        rw [if_neg hb2, g3, g4, row_get hd.1 (by omega)]
        show max _ (max (max 0 _) _) = _ ∧ _
        omega
    have all : ∀ (ms : List (List Nat × Int)), (∀ l ∈ ms, l ∈ ls) → ∀ s : Int, 0 ≤ s → ms.foldl (fun acc l => fdW L dr l acc (W + 1)) s = ms.foldl (fun acc l => goodW L dr l acc (W + 1)) s := by
      intro ms
      induction ms with
      | nil => intro _ s _; rfl
      | cons l ms ih =>
        intro hm s hs
        obtain ⟨i1, i2⟩ := step l (hm l (List.mem_cons_self ..)) (W + 1) (Nat.le_refl _) s hs
        rw [List.foldl_cons, List.foldl_cons, i1]
        exact ih (fun m hm' => hm m (List.mem_cons_of_mem _ hm')) _ i2
    exact all ls (fun l hl => hl) 0 (Int.le_refl _)
end
section
variable {L : Lay} {ls : List (List Nat × Int)} {t r dr g d : List Nat} {c : List Int} {w p W i k : Nat} {l : List Nat × Int}
/-! ### the guarantees -/
theorem diff_count (a b g : List Nat) (h : a.length = b.length) : ∀ w, w ≤ a.length → cntIn a g w - cntIn b g w ≤ (mv a (b.take w) : Nat) ∧ cntIn b g w - cntIn a g w ≤ (mv a (b.take w) : Nat)
  | 0, _ => by
    rw [cntIn_zero, cntIn_zero]
    omega
  | w + 1, hw => by
    obtain ⟨h1, h2⟩ := diff_count a b g h w (by omega)
    have e1 : a[w]? = some (a.getD w 0) := by rw [List.getD_eq_getElem?_getD, List.getElem?_eq_getElem (by omega)]; rfl
    have e2 : b[w]? = some (b.getD w 0) := by rw [List.getD_eq_getElem?_getD, List.getElem?_eq_getElem (by omega)]; rfl
    have hl : (b.take w).length = w := by rw [List.length_take]; omega
    rw [cntIn_succ e1, cntIn_succ e2, take_snoc 0 (by omega), mv_snoc, hl]
    by_cases e : b.getD w 0 = a.getD w 0
    · rw [e, decide_eq_true rfl, Int.natCast_add]
      simp only [Bool.not_true, Bool.false_eq_true, if_false]
      omega
    · rw [decide_eq_false e, Int.natCast_add]
      simp only [Bool.not_false, if_true]
      split <;> split <;> omega
theorem mv_mono (d t : List Nat) (w : Nat) : mv d (t.take w) ≤ mv d t := by
  by_cases hw : w ≤ t.length
  · induction hd : t.length - w generalizing w with
    | zero =>
      rw [List.take_of_length_le (by omega)]
      exact Nat.le_refl _
    | succ n ih =>
      have := ih (w + 1) (by omega) (by omega)
      rw [take_snoc 0 (by omega), mv_snoc] at this
      omega
  · rw [List.take_of_length_le (by omega)]
    exact Nat.le_refl _
theorem out_low (h : Nice L W ls) (hd : DrawOk L W dr) (hg : g ∈ goods L ls W) : ∃ o, outO L dr W ls = some o ∧ o ≤ ((moveN dr g).length : Nat) := by
  obtain ⟨g1, g2⟩ := mem_goods.mp hg
  have p0 := h.hL.p0
  have hk := (kept_off h ⟨g1, g2.lt⟩).mp (keptB_iff.mpr g2.ok)
  have hin : ∀ l ∈ ls, ∀ w, w ≤ W → loAt L l.1 l.2 w ≤ cntIn g l.1 w ∧ cntIn g l.1 w ≤ hiAt L l.1 l.2 w := by
    intro l hl w hw
    have h0 : 0 ≤ cntIn g l.1 w := by unfold cntIn; omega
    have z := (lo_hi_iff p0 h0).mp (hk l hl w hw)
    unfold loAt hiAt
    by_cases e : w = 0
    · subst e
      rw [if_pos rfl, if_pos rfl, cntIn_zero]
      omega
    · rw [if_neg e, if_neg e]
      exact z
  have hbd : ∀ l ∈ ls, ∀ w, w ≤ W → ∃ o, outL L dr l w = some o ∧ o ≤ ((moveN dr g).length : Nat) := by
    intro l hl w hw
    obtain ⟨q1, q2⟩ := hin l hl w hw
    obtain ⟨d1, d2⟩ := diff_count dr g l.1 (by rw [hd.1, g1]) w (by rw [hd.1]; exact hw)
    have d3 := mv_mono dr g w
    rw [mv_eq (a := dr) (b := g) (by rw [hd.1, g1])] at d3
    unfold outL outAt
    rw [if_neg (by omega)]
    exact ⟨_, rfl, by omega⟩
  unfold outO
  have hn : ¬ ls.any (badL L dr W) = true := by
    rw [Bool.not_eq_true, List.any_eq_false]
    intro l hl
    unfold badL
    rw [Bool.not_eq_true, List.any_eq_false]
    intro w hw
    obtain ⟨o, ho, _⟩ := hbd l hl w (by have := List.mem_range.mp hw; omega)
    rw [ho]
    simp
  rw [if_neg hn]
  refine ⟨_, rfl, ?_⟩
  have step : ∀ l ∈ ls, ∀ n, n ≤ W + 1 → ∀ s : Int, s ≤ ((moveN dr g).length : Nat) → fdW L dr l s n ≤ ((moveN dr g).length : Nat) := by
    intro l hl n
    induction n with
    | zero => intro _ s hs; exact hs
    | succ n ih =>
      intro hn s hs
      have e2 : fdW L dr l s (n + 1) = max (fdW L dr l s n) ((outL L dr l n).getD 0) := by
        unfold fdW
        rw [List.range_succ, List.foldl_append]
        rfl
      obtain ⟨o, ho, hb⟩ := hbd l hl n (by omega)
      have := ih (by omega) s hs
      rw [e2, ho]
      show max _ o ≤ _
      omega
  unfold fdL
  have all : ∀ (ms : List (List Nat × Int)), (∀ l ∈ ms, l ∈ ls) → ∀ s : Int, s ≤ ((moveN dr g).length : Nat) → ms.foldl (fun acc l => fdW L dr l acc (W + 1)) s ≤ ((moveN dr g).length : Nat) := by
    intro ms
    induction ms with
    | nil => intro _ s hs; exact hs
    | cons l ms ih =>
      intro hm s hs
      exact ih (fun m hm' => hm m (List.mem_cons_of_mem _ hm')) _ (step l (hm l (List.mem_cons_self ..)) (W + 1) (Nat.le_refl _) s hs)
  exact all ls (fun l hl => hl) 0 (by omega)
/-- never below out_by -/
theorem out_few (h : Nice L W ls) (hd : DrawOk L W dr) (hne : goods L ls W ≠ []) : ∃ o, outO L dr W ls = some o ∧ o ≤ fewZ L ls W dr := by
  obtain ⟨⟨g, hg, e⟩, _⟩ := few_is (dr := dr) hne
  rw [e]
  exact out_low h hd hg
theorem moveN_nil (h : dr.length = g.length) : (moveN dr g).length = 0 ↔ dr = g := by
  rw [List.length_eq_zero_iff]
  unfold moveN
  rw [List.filter_eq_nil_iff]
  constructor
  · intro hk
    apply List.ext_getElem h
    intro i h1 h2
    have := hk i (List.mem_range.mpr h1)
    rw [List.getD_eq_getElem?_getD, List.getD_eq_getElem?_getD, List.getElem?_eq_getElem h1, List.getElem?_eq_getElem h2] at this
    simpa using this
  · rintro rfl k _
    simp
theorem few_zero (hd : dr.length = W) (hne : goods L ls W ≠ []) : decide (fewZ L ls W dr = 0) = decide (dr ∈ goods L ls W) := by
  obtain ⟨⟨g, hg, e⟩, h2⟩ := few_is (dr := dr) hne
  have g1 := (mem_goods.mp hg).1
  rw [decide_eq_decide]
  constructor
  · intro z
    have e1 := (moveN_nil (dr := dr) (g := g) (by omega)).mp (by omega)
    rw [e1]
    exact hg
  · intro z
    have := h2 dr z
    rw [(moveN_nil rfl).mpr rfl] at this
    omega
theorem mv_tri (a b c : List Nat) (h1 : a.length = b.length) : (moveN a c).length ≤ (moveN a b).length + (moveN b c).length := by
  unfold moveN
  rw [← h1]
  generalize List.range a.length = xs
  induction xs with
  | nil => simp
  | cons x xs ih =>
    rw [List.filter_cons, List.filter_cons, List.filter_cons]
    by_cases e1 : a.getD x 0 = b.getD x 0
    · rw [e1]
      by_cases e2 : b.getD x 0 = c.getD x 0
      · simp only [e2, decide_true, Bool.not_true, Bool.false_eq_true, if_false]
        exact ih
      · simp only [e2, decide_true, decide_false, Bool.not_true, Bool.not_false, Bool.false_eq_true, if_false, if_true, List.length_cons]
        omega
    · by_cases e2 : b.getD x 0 = c.getD x 0
      · rw [← e2]
        simp only [e1, decide_true, decide_false, Bool.not_true, Bool.not_false, Bool.false_eq_true, if_false, if_true, List.length_cons]
        omega
      · simp only [e1, e2, decide_false, Bool.not_false, if_true, List.length_cons]
        split <;> (try simp only [List.length_cons]) <;> omega
theorem few_tri {ot : List Nat} (hd : dr.length = W) (ho : ot.length = W) (hne : goods L ls W ≠ []) : fewZ L ls W dr ≤ ((movedN dr ot).length : Nat) + fewZ L ls W ot := by
  obtain ⟨⟨g, hg, e⟩, _⟩ := few_is (dr := ot) hne
  have h2 := (few_is (dr := dr) hne).2 g hg
  have := mv_tri dr ot g (by omega)
  rw [e, movedN_eq (by omega)]
  omega
/-! ### few states -/
theorem st_len_pow : ∀ j, (stAt L ls j).length ≤ L.rows.length ^ j := fun j => by
  have h := len_sub (stAt L ls j) ((drawsN L.rows.length j).map (cnt L.rows.length)) (stAt_nodup L ls j) fun x hx => by
    obtain ⟨t, t1, t2, rfl⟩ := mem_st.mp hx
    exact List.mem_map.mpr ⟨t, drawsN_mem.mpr ⟨t1, t2.lt⟩, rfl⟩
  rw [List.length_map, drawsN_len] at h
  exact h
theorem st_few (hn : L.rows.length ≤ 3) (hW : W ≤ 4) : ∀ j, j ≤ W → (stAt L ls j).length ≤ 4000 := fun j hj => by
  refine Nat.le_trans (st_len_pow j) (Nat.le_trans (Nat.pow_le_pow_left hn j) ?_)
  exact Nat.le_trans (Nat.pow_le_pow_right (by omega) (show j ≤ 4 by omega)) (by decide)
/-! ### drawn layouts and limits -/
theorem moreN_in {us : List Int} {n : Nat} : ∀ (j k : Nat), 0 ≤ (moreN us n j).getD k 0 ∧ (moreN us n j).getD k 0 ≤ j
  | 0, k => by
    rw [moreN, List.getD_eq_getElem?_getD, List.getElem?_replicate]
    split <;> simp
  | j + 1, k => by
    obtain ⟨h1, h2⟩ := moreN_in (us := us) (n := n) j k
    rw [moreN]
    by_cases hp : (takeV (iterS us n j) n).toNat < (moreN us n j).length
    · rw [more_get hp]
      split <;> omega
    · have : moreZ (moreN us n j) (takeV (iterS us n j) n).toNat = moreN us n j := by
        unfold moreZ
        rw [List.set_eq_of_length_le (by omega)]
      rw [this]
      omega
theorem last_mem {l : List Int} (h : l ≠ []) : l.getLastD 0 ∈ l := by
  rw [List.getLastD_eq_getLast?, List.getLast?_eq_getLast h]
  exact List.getLast_mem h
theorem layR_in {parts n : Nat} {us : List Int} : ∀ (w k : Nat), k < n → ∀ e ∈ (layR parts n us w).getD k [], 0 ≤ e ∧ e ≤ ((w * parts : Nat) : Int)
  | 0, k, hk, e, he => by
    rw [layR, List.getD_eq_getElem?_getD, List.getElem?_replicate, if_pos hk] at he
    have : e = 0 := by simpa using he
    subst this
    omega
  | w + 1, k, hk, e, he => by
    have ih := layR_in (parts := parts) (us := us) w k hk
    have hl := (layR_row (parts := parts) (us := us) w k hk).1
    have e0 : (layR parts n us (w + 1)).getD k [] = (layR parts n us w).getD k [] ++ [((layR parts n us w).getD k []).getLastD 0 + (moreN (layU parts n us w) n parts).getD k 0] := by
      rw [layR, growR, List.getD_eq_getElem?_getD, List.getElem?_map, List.getElem?_range (by rw [layR_len]; exact hk)]
      rfl
    rw [e0] at he
    have hm : (w + 1) * parts = w * parts + parts := by rw [Nat.add_mul]; simp
    rw [hm]
    rcases List.mem_append.mp he with he | he
    · have := ih e he
      omega
    · rw [List.mem_singleton.mp he]
      have h1 := ih _ (last_mem (fun z => by rw [z] at hl; simp at hl))
      have h2 := moreN_in (us := layU parts n us w) (n := n) parts k
      omega
theorem sizes (us : List Int) : 2 ≤ partsN us ∧ partsN us ≤ 4 ∧ 2 ≤ panesN us ∧ panesN us ≤ 3 ∧ 2 ≤ widN us ∧ widN us ≤ 4 := by
  have h1 := takeV_ok (us := us) (m := 3) (by omega)
  have h2 := takeV_ok (us := takeS us 3) (m := 2) (by omega)
  have h3 := takeV_ok (us := takeS (takeS us 3) 2) (m := 3) (by omega)
  unfold partsN panesN widN
  omega
theorem drawn_rows (us : List Int) : (drawnL us).rows.length = panesN us := by
  unfold drawnL
  exact layR_len _
theorem drawn_ok (us : List Int) : (drawnL us).Ok (widN us) := by
  obtain ⟨h1, h2, h3, h4, h5, h6⟩ := sizes us
  have hr := drawn_rows us
  refine ⟨?_, ?_, by omega, by omega, fun p hp => ?_, by omega⟩
  · show (0 : Int) < (partsN us : Nat)
    omega
  · show ((partsN us : Nat) : Int) ≤ 1000
    omega
  · rw [hr] at hp
    exact (layR_row (widN us) p hp).1
def drawnO (us : List Int) : List (List Nat × Int) := limO (partsN us : Nat) (drawnU us) (gsN (panesN us)) (gsN (panesN us)).length
theorem gsN_ok {n : Nat} (h2 : 2 ≤ n) (h3 : n ≤ 3) : ∀ g ∈ gsN n, (∀ p ∈ g, p < n) ∧ g.length ≤ 2 ∧ g.Nodup := by
  rcases (by omega : n = 2 ∨ n = 3) with rfl | rfl <;> decide
theorem gsN_len (n : Nat) : (gsN n).length ≤ 6 := by
  unfold gsN
  split <;> simp
theorem drawn_nice (us : List Int) : Nice (drawnL us) (widN us) (drawnO us) := by
  obtain ⟨h1, h2, h3, h4, h5, h6⟩ := sizes us
  have hr := drawn_rows us
  have hm : ∀ l ∈ drawnO us, l.1 ∈ gsN (panesN us) ∧ 0 ≤ l.2 ∧ l.2 ≤ 2 * ((partsN us : Nat) : Int) := limO_mem (by omega) (Nat.le_refl _)
  have hg := gsN_ok h3 h4
  refine ⟨drawn_ok us, ⟨fun l hl => ?_, fun l hl => ?_, ?_⟩, fun p hp => ?_, fun l hl => (hg _ (hm l hl).1).2.2, fun l hl => (hm l hl).2.1⟩
  · rw [hr]
    exact (hg _ (hm l hl).1).1
  · have := (hg _ (hm l hl).1).2.1
    omega
  · have := limO_len (parts := (partsN us : Nat)) (us := drawnU us) (gs := gsN (panesN us)) (gsN (panesN us)).length
    have h8 := gsN_len (panesN us)
    unfold drawnO
    omega
  · rw [hr] at hp
    obtain ⟨q1, q2⟩ := layR_row (parts := partsN us) (us := us3 us) (widN us) p hp
    show ((layR (partsN us) (panesN us) (us3 us) (widN us)).getD p []).getD 0 0 = 0
    rw [List.getD_eq_getElem?_getD, List.getElem?_eq_getElem (by omega)] at q2 ⊢
    exact q2
theorem drawn_bound (us : List Int) : ∀ l ∈ drawnO us, ∀ v, v ≤ widN us → -90000 ≤ exactAt (drawnL us) l.1 v + l.2 ∧ exactAt (drawnL us) l.1 v + l.2 ≤ 90000 := fun l hl v hv => by
  obtain ⟨h1, h2, h3, h4, h5, h6⟩ := sizes us
  have hm : l.1 ∈ gsN (panesN us) ∧ 0 ≤ l.2 ∧ l.2 ≤ 2 * ((partsN us : Nat) : Int) := limO_mem (by omega) (Nat.le_refl _) l hl
  obtain ⟨q1, q2, _⟩ := gsN_ok h3 h4 _ hm.1
  have hp : widN us * partsN us ≤ 16 := Nat.mul_le_mul h6 h2
  have hs : ∀ g : List Nat, (∀ p ∈ g, p < panesN us) → 0 ≤ exactAt (drawnL us) g v ∧ exactAt (drawnL us) g v ≤ 16 * g.length := by
    intro g
    induction g with
    | nil => intro _; simp [exactAt]
    | cons p g ih =>
      intro hp'
      obtain ⟨i1, i2⟩ := ih fun q hq => hp' q (List.mem_cons_of_mem _ hq)
      have e : exactAt (drawnL us) (p :: g) v = ((layR (partsN us) (panesN us) (us3 us) (widN us)).getD p []).getD v 0 + exactAt (drawnL us) g v := by
        unfold exactAt
        rw [List.map_cons, List.sum_cons]
        rfl
      have hpp := hp' p (List.mem_cons_self ..)
      have hlen := (layR_row (parts := partsN us) (us := us3 us) (widN us) p hpp).1
      have hz := layR_in (parts := partsN us) (us := us3 us) (widN us) p hpp (((layR (partsN us) (panesN us) (us3 us) (widN us)).getD p []).getD v 0) (by
        rw [List.getD_eq_getElem?_getD (l := (layR (partsN us) (panesN us) (us3 us) (widN us)).getD p []), List.getElem?_eq_getElem (by omega)]
        exact List.getElem_mem _)
      rw [e, List.length_cons]
      omega
  obtain ⟨s1, s2⟩ := hs l.1 q1
  omega
end
end SP
set_option Elab.async false
set_option linter.all false
set_option maxRecDepth 100000
set_option maxHeartbeats 1000000
/-! Stillpanes: what _law_right asks beside. -/
namespace SP
open PySem L2 PySem.Spec PyProof.Rows
/-! ### data of lists and tuples alone -/
theorem Nst.to {n : Nat} {b b' : Bool} {G G' : Hp} {d : D} (h : Nst n d) (x : ∀ a vs, G a = some (.tup vs) → G' a = some (.tup vs)) (y : ∀ a vs, G a = some (.lst vs) → G' a = some (.lst vs)) : ∀ v, R b G v d → R b' G' v d := by
  induction h with
  | atom h => exact fun v r => r.imm x (atom_imm h)
  | tup h _ ih =>
    intro v r
    obtain ⟨a, vs, rfl, e, l⟩ := r.tup_
    exact .tup (x _ _ e) (RL.each' ih l)
  | lst h _ ih =>
    intro v r
    obtain ⟨a, vs, rfl, e, l⟩ := r.lst_
    exact .lst (y _ _ e) (RL.each' ih l)
/-- no locked object -/
def NT2 : HO → Prop
  | .frz _ _ => False
  | _ => True
theorem lock_coreN {te : TE} {σ : L2.St} {H G : Hp} {Q : VK} {ys : List D} {a : Addr} {kvs : List (List Key × V)} (s : Sub G H) (ea : G a = some (.dT kvs)) (hI : ∀ y ∈ ys, ∃ n, Nst n y)
    (h : ∀ od, ∀ Q' : VK, (∀ v H2, Same (upd H a (.frz od (.dT kvs))) H2 → R false (ext (upd G a (.frz od (.dT kvs))) (upd H a (.frz od (.dT kvs))) H2) v (.lst ys) → Q' v H2) → te σ (upd H a (.frz od (.dT kvs))) Q')
    (q : ∀ v H2, Same H H2 → R true (ext G H H2) v (.lst ys) → Q v H2) : tLockE te σ H Q := by
  refine ⟨a, .dT kvs, s _ _ ea, trivial, fun od => h od _ fun v H2 e2 r2 => ?_⟩
  have h2a : H2 a = some (.frz od (.dT kvs)) := e2 _ _ upd_same
  have sm : Same H (upd H2 a (.dT kvs)) := fun c o e => by
    by_cases ec : c = a
    · subst ec
      rw [s _ _ ea] at e; cases e
      exact upd_same
    · rw [upd_ne ec]
      exact e2 c o (by rw [upd_ne ec]; exact e)
  refine ⟨h2a, q v _ sm ?_⟩
  have low : ∀ {c : Addr} {o : HO}, c ≠ a → ext (upd G a (.frz od (.dT kvs))) (upd H a (.frz od (.dT kvs))) H2 c = some o → ext G H (upd H2 a (.dT kvs)) c = some o := fun {c o} hc h => by
    unfold ext at h ⊢
    rw [upd_ne hc] at h ⊢
    rw [upd_ne hc] at h
    exact h
  have hne : ∀ {c : Addr} {o : HO}, NT2 o → ext (upd G a (.frz od (.dT kvs))) (upd H a (.frz od (.dT kvs))) H2 c = some o → c ≠ a := fun {c o} nt h e => by
    subst e
    rcases ext_cases h with ⟨_, z⟩ | ⟨_, z⟩ | ⟨_, z⟩
    · rw [h2a] at z; cases z; exact nt
    · rw [h2a] at z; cases z; exact nt
    · rw [upd_same] at z; cases z; exact nt
  obtain ⟨l, vs, rfl, el, rl⟩ := r2.lst_
  exact .lst (low (hne (o := .lst vs) trivial el) el) (RL.each' (fun d hd v r => let ⟨n, hn⟩ := hI d hd; hn.to (fun c ws hc => low (hne (o := .tup ws) trivial hc) hc) (fun c ws hc => low (hne (o := .lst ws) trivial hc) hc) v r) rl)
theorem ev_lockDN {ps : Ds} {te : TE} {j : Nat} {ks : List (List Int × D)} {ys : List D} (hj : ps[j]? = some (some (.dct ks))) (hI : ∀ y ∈ ys, ∃ n, Nst n y) (h : EvP false (ps.set j (some (.lkd ks))) te (.lst ys)) : EvP true ps (tLockE te) (.lst ys) := fun σ H G s l Q q => by
  obtain ⟨v, ev, r⟩ := l.2 j _ hj
  obtain ⟨a, kvs, rfl, ea, rk⟩ := r.dct_
  rcases ea with ea | ⟨z, _⟩
  · refine lock_coreN s ea hI (fun od Q' q' => ?_) q
    have sl : SL false (upd G a (.frz od (.dT kvs))) σ (ps.set j (some (.lkd ks))) := by
      have z := (l.mono (lockR (od := od) ea)).set j (R.lkd (b := false) (a := a) (ks := ks) upd_same (rk.mono (lockR ea)))
      rw [set_self ev] at z
      exact z
    refine h σ _ _ (fun c o hc => ?_) sl Q' q'
    by_cases e : c = a
    · subst e; rw [upd_same] at hc ⊢; exact hc
    · rw [upd_ne e] at hc ⊢; exact s _ _ hc
  · cases z
theorem evx_catL {A : List Addr} {C C1 C2 : Hp} {b : Bool} {ps : Ds} {ta tb : TE} {ds es : List D} (ha : EvX A C b ps ta (.lst ds) C1) (hb : EvX A C1 b ps tb (.lst es) C2) (hz : ds.length + es.length ≤ 100000) : EvX A C b ps (tOp rCat ta tb) (.lst (ds ++ es)) C2 :=
  evx_two ha hb fun x y H G sub r1 r2 Q q => by
    obtain ⟨a, vs, rfl, ea, l⟩ := r1.lst_
    obtain ⟨c, ws, rfl, ec, m⟩ := r2.lst_
    have hl := l.len
    have hm := m.len
    exact ⟨a, c, vs, ws, rfl, rfl, sub _ _ ea, sub _ _ ec, sz_of (by omega), fun p hp => q _ _ (same_upd hp) (r_newL sub hp (l.append m))⟩
/-! ### the same twice -/
theorem sm_tup {n : Nat} {ds : List D} (h : ∀ d ∈ ds, Sm n d d true) (hl : ds.length ≤ 10000) : Sm (n + 1) (.tup ds) (.tup ds) true := by
  refine Sm.is (.tup (ds.map fun d => (d, d, true)) (fun p hp => ?_) (by rw [List.length_map]; exact hl)) ?_ ?_ ?_
  · obtain ⟨d, hd, rfl⟩ := List.mem_map.mp hp
    exact h d hd
  · rw [List.map_map]
    exact congrArg D.tup (List.map_id ds)
  · rw [List.map_map]
    exact congrArg D.tup (List.map_id ds)
  · rw [List.all_map]
    exact List.all_eq_true.mpr fun _ _ => rfl
theorem sm_lst {n : Nat} {ds : List D} (h : ∀ d ∈ ds, Sm n d d true) (hl : ds.length ≤ 10000) : Sm (n + 1) (.lst ds) (.lst ds) true := by
  refine Sm.is (.lst (ds.map fun d => (d, d, true)) (fun p hp => ?_) (by rw [List.length_map]; exact hl)) ?_ ?_ ?_
  · obtain ⟨d, hd, rfl⟩ := List.mem_map.mp hp
    exact h d hd
  · rw [List.map_map]
    exact congrArg D.lst (List.map_id ds)
  · rw [List.map_map]
    exact congrArg D.lst (List.map_id ds)
  · rw [List.all_map]
    exact List.all_eq_true.mpr fun _ _ => rfl
theorem sm_int {n : Nat} (i : Int) : Sm n (.int i) (.int i) true := Sm.is (.int i i) rfl rfl (by simp)
theorem sm_bl {n : Nat} (c : Bool) : Sm n (.bl c) (.bl c) true := Sm.is (.bl c c) rfl rfl (by simp)
theorem sm_natsT {n : Nat} {t : List Nat} (hl : t.length ≤ 10000) : Sm (n + 1) (nats t) (nats t) true := Sm.is (sm_nats rfl hl) rfl rfl (by simp)
theorem sm_bls {n : Nat} {α : Type} {xs : List α} {f : α → Bool} (hl : xs.length ≤ 10000) : Sm (n + 1) (.lst (xs.map fun x => .bl (f x))) (.lst (xs.map fun x => .bl (f x))) true := sm_lst (fun d hd => by
  obtain ⟨x, _, rfl⟩ := List.mem_map.mp hd
  exact sm_bl _) (by rw [List.length_map]; exact hl)
theorem sm_can {n : Nat} : Sm (n + 1) canD canD true := sm_lst (fun d hd => by
  rcases List.mem_cons.mp hd with rfl | hd
  · exact .str _
  · rw [List.mem_singleton.mp hd]
    exact sm_bl _) (by decide)
/-! ### == of tuples of numbers -/
theorem eqv_nats : ∀ {t u : List Nat}, PyData.eqv (nats t).py (nats u).py = decide (t = u) := by
  have key : ∀ (t u : List Nat), PyData.eqvAll (D.pys (t.map fun (n : Nat) => D.int (n : Int))) (D.pys (u.map fun (n : Nat) => D.int (n : Int))) = decide (t = u) := by
    intro t
    induction t with
    | nil =>
      intro u
      cases u with
      | nil => rw [List.map_nil, D.pys, PyData.eqvAll]; rfl
      | cons b u => rw [List.map_nil, List.map_cons, D.pys, D.pys, PyData.eqvAll]; rfl
    | cons a t ih =>
      intro u
      cases u with
      | nil => rw [List.map_nil, List.map_cons, D.pys, D.pys, PyData.eqvAll]; rfl
      | cons b u =>
        rw [List.map_cons, List.map_cons, D.pys, D.pys, PyData.eqvAll, ih, D.py, D.py, PyData.eqv]
        by_cases h : a = b
        · subst h
          simp
        · have : ¬ ((a : Nat) : Int) = ((b : Nat) : Int) := by omega
          simp [h]
          omega
  intro t u
  unfold nats
  rw [D.py, D.py, PyData.eqv]
  exact key t u
theorem any_nats (t : List Nat) : ∀ gs : List (List Nat), ((gs.map nats).any fun z => PyData.eqv z.py (nats t).py) = decide (t ∈ gs)
  | [] => rfl
  | g :: gs => by
    rw [List.map_cons, List.any_cons, any_nats t gs, eqv_nats]
    by_cases e : g = t
    · subst e; simp
    · have e' : ¬ t = g := fun z => e z.symm
      simp [e, e']
theorem sh_natsL {n : Nat} (t : List Nat) : Sh (n + 1) (natsL t) := .lst fun d hd => by
  obtain ⟨i, _, rfl⟩ := List.mem_map.mp hd
  exact .int _
theorem ev_inNats {b : Bool} {ps : Ds} {ta tb : TE} {K : PySem.W.Frag} {t : List Nat} {gs : List (List Nat)} (ha : EvP b ps ta (nats t)) (hb : EvP b ps tb (.lst (gs.map nats))) : EvP b ps (tOp (rInD K) ta tb) (.bl (decide (t ∈ gs))) := by
  have h1 : Sh 1 (nats t) := sh_nats t
  have h2 : Sh 2 (.lst (gs.map nats)) := .lst fun d hd => by
    obtain ⟨g, _, rfl⟩ := List.mem_map.mp hd
    exact sh_nats g
  have h3 := h2.ok.1
  rw [D.seq] at h3
  refine (ev_inD ha hb h1.ok.1 h3 (h1.shaped (by decide)) (h2.shaped (by decide))).is ?_
  rw [any_nats]
end SP
set_option Elab.async false
set_option linter.all false
set_option maxRecDepth 100000
set_option maxHeartbeats 1000000
/-! Stillpanes: data of layouts and limits; moves; the two lists of _law_right. -/
namespace SP
open PySem L2 PySem.Spec PyProof.Rows
theorem NsT.both {n : Nat} {x : D} (h : NsT n x) : Nst n x ∧ Nst n x.lstd ∧ x.tupd = x ∧ x.lstd.tupd = x := by
  induction h with
  | atom h => exact ⟨.atom h, by rw [atom_lstd h]; exact .atom h, atom_tupd h, by rw [atom_lstd h]; exact atom_tupd h⟩
  | tup h hl ih =>
    refine ⟨.tup (fun d hd => (ih d hd).1) hl, ?_, ?_, ?_⟩
    · rw [D.lstd, lstds_map]
      exact .lst (fun d hd => by
        obtain ⟨y, hy, rfl⟩ := List.mem_map.mp hd
        exact (ih y hy).2.1) (by rw [List.length_map]; exact hl)
    · rw [D.tupd, tupds_map]
      congr 1
      rename_i ds
      conv => rhs; rw [← List.map_id ds]
      exact List.map_congr_left fun d hd => (ih d hd).2.2.1
    · rw [D.lstd, lstds_map, D.tupd, tupds_map, List.map_map]
      congr 1
      rename_i ds
      conv => rhs; rw [← List.map_id ds]
      exact List.map_congr_left fun d hd => (ih d hd).2.2.2
theorem nsT_key {n : Nat} {k : List Int} (h : k.length ≤ 10000) : NsT (n + 1) (keyD k) := .tup (fun d hd => by
  obtain ⟨i, _, rfl⟩ := List.mem_map.mp hd
  exact .atom rfl) (by rw [List.length_map]; exact h)
theorem nsT_nats {n : Nat} {k : List Nat} (h : k.length ≤ 10000) : NsT (n + 1) (nats k) := .tup (fun d hd => by
  obtain ⟨i, _, rfl⟩ := List.mem_map.mp hd
  exact .atom rfl) (by rw [List.length_map]; exact h)
section
variable {L : Lay} {W : Nat} {ls : List (List Nat × Int)} {dr : List Nat}
theorem nsT_lay (h : L.Ok W) : NsT 3 L.d := .tup (fun d hd => by
  rcases List.mem_cons.mp hd with rfl | hd
  · exact .atom rfl
  · rw [List.mem_singleton.mp hd]
    refine .tup (fun d hd => ?_) (by rw [List.length_map]; have := h.n1; omega)
    obtain ⟨k, hk, rfl⟩ := List.mem_map.mp hd
    obtain ⟨i, hi, e⟩ := List.getElem_of_mem hk
    have := h.len i hi
    rw [List.getD_eq_getElem?_getD, List.getElem?_eq_getElem hi, Option.getD_some, e] at this
    exact nsT_key (by have := h.w1; omega)) (by simp)
theorem nsT_lims (h : LimsOk L ls) : NsT 3 (limsD ls) := .tup (fun d hd => by
  obtain ⟨l, hl, rfl⟩ := List.mem_map.mp hd
  refine .tup (fun d hd => ?_) (by simp)
  rcases List.mem_cons.mp hd with rfl | hd
  · exact nsT_nats (by have := h.g1 l hl; omega)
  · rw [List.mem_singleton.mp hd]
    exact .atom rfl) (by rw [List.length_map]; have := h.l1; omega)
theorem nst_natsL {n : Nat} {t : List Nat} (h : t.length ≤ 10000) : Nst (n + 1) (natsL t) := .lst (fun d hd => by
  obtain ⟨i, _, rfl⟩ := List.mem_map.mp hd
  exact .atom rfl) (by rw [List.length_map]; exact h)
theorem natsL_tupd (t : List Nat) : (natsL t).tupd = nats t := by
  unfold natsL nats
  rw [D.tupd, tupds_map, List.map_map]
  congr 1
theorem told_of (hL : L.Ok W) (hl : LimsOk L ls) (hd : DrawOk L W dr) (h4 : ∀ j, j ≤ W → (stAt L ls j).length ≤ 4000) {x y z : D} (hx : x = L.d ∨ x = L.d.lstd) (hy : y = nats dr ∨ y = natsL dr) (hz : z = limsD ls ∨ z = (limsD ls).lstd) : Told L W dr ls x y z := by
  obtain ⟨a1, a2, a3, a4⟩ := (nsT_lay hL).both
  obtain ⟨b1, b2, b3, b4⟩ := (nsT_lims hl).both
  have hdl : dr.length ≤ 10000 := by rw [hd.1]; have := hL.w1; omega
  refine ⟨?_, ?_, ?_, ?_, ?_, ?_, hL, hl, hd, h4⟩
  · rcases hx with rfl | rfl
    · exact a1
    · exact a2
  · rcases hy with rfl | rfl
    · exact nst_nats hdl
    · exact nst_natsL hdl
  · rcases hz with rfl | rfl
    · exact b1
    · exact b2
  · rcases hx with rfl | rfl
    · exact a3
    · exact a4
  · rcases hy with rfl | rfl
    · exact (nsT_nats (n := 0) hdl).both.2.2.1
    · exact natsL_tupd dr
  · rcases hz with rfl | rfl
    · exact b3
    · exact b4
end
/-! ### moves -/
def castN (g : List Nat) : List Int := g.map fun (n : Nat) => (n : Int)
theorem castN_inj {a b : List Nat} (h : castN a = castN b) : a = b := by
  unfold castN at h
  exact (List.map_inj_right fun x y e => by
    have e : ((x : Nat) : Int) = y := e
    omega).mp h
def movK (dr : List Nat) (gs : List (List Nat)) : List (List Int × D) := gs.map fun g => (castN g, natsL (moveN dr g))
theorem valD_mov (dr t : List Nat) : ∀ gs : List (List Nat), valD (movK dr gs) (castN t) = if t ∈ gs then some (natsL (moveN dr t)) else none
  | [] => rfl
  | g :: gs => by
    have ih := valD_mov dr t gs
    unfold movK valD at ih ⊢
    rw [List.map_cons, List.find?_cons]
    by_cases e : g = t
    · subst e
      rw [decide_eq_true rfl, if_pos (List.mem_cons_self ..)]
      rfl
    · have e1 : ¬ castN g = castN t := fun z => e (castN_inj z)
      rw [decide_eq_false e1]
      have e2 : t ∈ g :: gs ↔ t ∈ gs := by
        rw [List.mem_cons]
        exact ⟨fun z => z.elim (fun q => absurd q.symm e) id, .inr⟩
      simp only [e2]
      exact ih
theorem drawsN_nodup {n : Nat} : ∀ w, (drawsN n w).Nodup
  | 0 => by simp [drawsN]
  | w + 1 => by
    rw [drawsN]
    unfold List.Nodup
    rw [List.pairwise_flatMap]
    refine ⟨fun own ho => ?_, (drawsN_nodup w).imp_of_mem fun {a b} ha hb hab x hx y hy z => ?_⟩
    · rw [List.pairwise_map]
      refine List.nodup_range.imp fun {p q} hpq z => hpq ?_
      have := List.append_cancel_left z
      simpa using this
    · obtain ⟨p, _, rfl⟩ := List.mem_map.mp hx
      obtain ⟨q, _, rfl⟩ := List.mem_map.mp hy
      have h1 := (drawsN_mem.mp ha).1
      have h2 := (drawsN_mem.mp hb).1
      exact hab (List.append_inj_left z (by omega))
theorem goods_nodup {L : Lay} {ls : List (List Nat × Int)} {W : Nat} : (goods L ls W).Nodup := (drawsN_nodup W).filter _
theorem movK_keys (dr : List Nat) {gs : List (List Nat)} (h : gs.Nodup) : ((movK dr gs).map (·.1)).Nodup := by
  unfold movK
  rw [List.map_map]
  unfold List.Nodup
  rw [List.pairwise_map]
  exact h.imp fun {a b} hab z => hab (castN_inj z)
/-! ### lists that grow -/
section
variable {G0 H0 : Hp} {u pg pd : Addr} {ps qs : Ds} {us us' : List Int} {gds dds : List D} {σ : L2.St} {H : Hp} {K : PySem.W.Frag}
theorem gx_upd {A : List Addr} {p : Addr} {o : HO} (hp : p ∈ A) : Gx A G0 H0 (upd H p o) = Gx A G0 H0 H := gx_write hp
/-- the urn u, the list of answers pg, the list of due ones pd -/
structure RS (G0 H0 : Hp) (u pg pd : Addr) (ps : Ds) (us : List Int) (gds dds : List D) (σ : L2.St) (H : Hp) (C : Hp) (xs ys : List V) : Prop where
  at_ : At true G0 H0 [pd, pg, u] C ps σ H
  cu : C u = some (urnO us)
  cg : C pg = some (.lst xs)
  cd : C pd = some (.lst ys)
  rg : RL true (Gx [pd, pg, u] G0 H0 H) xs gds
  rd : RL true (Gx [pd, pg, u] G0 H0 H) ys dds
  n1 : pg ≠ u
  n2 : pd ≠ pg
  n3 : pd ≠ u
theorem RS.got {C : Hp} {xs ys : List V} (h : RS G0 H0 u pg pd ps us gds dds σ H C xs ys) {i : Nat} {te : TE} {d : D} {Dn : Ends} (hi : ps[i]? = some (some (.adr pg))) (hl : gds.length ≤ 100) (e : EvP true ps te d)
    (k : ∀ H' C' xs', RS G0 H0 u pg pd ps us (gds ++ [d]) dds σ H' C' xs' ys → Dn.nx σ H') : tDrop (tBM K "list" rAppend (tVar i) (tCons te tNil)) Dn σ H := by
  refine h.at_.append hi (by simp) h.cg (by rw [h.rg.len]; omega) e.x h.cg fun v H' e1 a1 r1 => ?_
  have up := h.at_.up e1 a1.own
  exact k H' _ _ ⟨a1, by rw [upd_ne h.n1.symm]; exact h.cu, upd_same, by rw [upd_ne h.n2]; exact h.cd, (h.rg.same up).append (.one r1), h.rd.same up, h.n1, h.n2, h.n3⟩
theorem RS.due {C : Hp} {xs ys : List V} (h : RS G0 H0 u pg pd ps us gds dds σ H C xs ys) {i : Nat} {te : TE} {d : D} {Dn : Ends} (hi : ps[i]? = some (some (.adr pd))) (hl : dds.length ≤ 100) (e : EvP true ps te d)
    (k : ∀ H' C' ys', RS G0 H0 u pg pd ps us gds (dds ++ [d]) σ H' C' xs ys' → Dn.nx σ H') : tDrop (tBM K "list" rAppend (tVar i) (tCons te tNil)) Dn σ H := by
  refine h.at_.append hi (by simp) h.cd (by rw [h.rd.len]; omega) e.x h.cd fun v H' e1 a1 r1 => ?_
  have up := h.at_.up e1 a1.own
  exact k H' _ _ ⟨a1, by rw [upd_ne h.n3.symm]; exact h.cu, by rw [upd_ne h.n2.symm]; exact h.cg, upd_same, h.rg.same up, (h.rd.same up).append (.one r1), h.n1, h.n2, h.n3⟩
theorem RS.sd {C : Hp} {xs ys : List V} (h : RS G0 H0 u pg pd ps us gds dds σ H C xs ys) {ts : TS} {Dn : Ends} (e : SdP (fun _ _ => False) true ps ts (.nx qs))
    (k : ∀ σ' H', RS G0 H0 u pg pd qs us gds dds σ' H' C xs ys → Dn.nx σ' H') : ts Dn σ H :=
  h.at_.sd e fun σ' H' e1 a1 => by
    have up := h.at_.up (.of e1) a1.own
    exact k σ' H' ⟨a1, h.cu, h.cg, h.cd, h.rg.same up, h.rd.same up, h.n1, h.n2, h.n3⟩
/-- what changes the urn alone -/
theorem RS.urn {C : Hp} {xs ys : List V} (h : RS G0 H0 u pg pd ps us gds dds σ H C xs ys) {te : TE} {d : D} {i : Nat} {Dn : Ends} (e : ∀ C : Hp, EvX [pd, pg, u] (upd C u (urnO us)) true ps te d (upd C u (urnO us')))
    (k : ∀ v H' C', RS G0 H0 u pg pd (ps.set i (some d)) us' gds dds (σ.set i (some v)) H' C' xs ys → Dn.nx (σ.set i (some v)) H') : tAsg te (gName i) Dn σ H := by
  have e0 : upd C u (urnO us) = C := by
    funext c
    by_cases hc : c = u
    · subst hc; rw [upd_same, h.cu]
    · rw [upd_ne hc]
  have e := e C
  rw [e0] at e
  refine h.at_.ev e fun v H' e1 a1 r1 => ?_
  have up := h.at_.up e1 a1.own
  exact k v H' _ ⟨a1.set i r1, upd_same, by rw [upd_ne h.n1]; exact h.cg, by rw [upd_ne h.n3]; exact h.cd, h.rg.same up, h.rd.same up, h.n1, h.n2, h.n3⟩
end
end SP
set_option Elab.async false
set_option linter.all false
set_option maxRecDepth 100000
set_option maxHeartbeats 4000000
/-! Stillpanes: _law_right. -/
namespace SP
open PySem L2 PySem.Spec PyProof.Rows
/-- a thing: a tuple of numbers, or something else -/
def thD : List Nat ⊕ D → D
  | .inl t => nats t
  | .inr d => d
def oneB (gs : List (List Nat)) (dr : List Nat) (few : Int) : List Nat ⊕ D → Bool
  | .inl t => decide (t ∈ gs) && decide (((moveN dr t).length : Int) = few)
  | .inr _ => false
/-- the draws of the lots, of the things -/
def lotU (us : List Int) (W : Nat) : Nat → List Int
  | 0 => us
  | i + 1 => iterS (lotU us W i) 2 W
def lotN (us : List Int) (W : Nat) : List Nat := (List.range W).filter fun k => decide (takeV (iterS us 2 k) 2 = 0)
def lotsN (us : List Int) (W : Nat) : List (List Nat) := ((List.range 4).map fun i => lotN (lotU us W i) W) ++ [[]]
def ofN (us : List Int) (xs : List (List Nat)) (i : Nat) : List Nat := xs.getD (takeV (iterS us xs.length i) xs.length).toNat []
/-- the urn behind the layout, the limits, the drawing, the other one, the things, the lots -/
def rU1 (us : List Int) : List Int := limS (partsN us : Nat) (drawnU us) (gsN (panesN us)).length
def rU2 (us : List Int) : List Int := iterS (rU1 us) (panesN us : Nat) (widN us)
def rU3 (us : List Int) : List Int := iterS (rU2 us) (panesN us : Nat) (widN us)
def rU4 (us : List Int) : List Int := iterS (rU3 us) ((drawsN (panesN us) (widN us)).length : Nat) 4
def rightU (us : List Int) : List Int := lotU (rU4 us) (widN us) 4
theorem UOk.lots {n : Int} {us : List Int} {W : Nat} (h : UOk n us) : ∀ i : Nat, UOk (n + i * W) (lotU us W i)
  | 0 => h.up (by simp)
  | i + 1 => ((h.lots i).iter W).up (by
    have : ((i + 1 : Nat) : Int) * W = i * W + W := by rw [Int.natCast_add, Int.add_mul]; simp
    omega)
theorem drawnU_ok {us : List Int} {n : Int} (h : UOk n us) : UOk (n + 19) (drawnU us) := by
  obtain ⟨h1, h2, _, _, h5, h6⟩ := sizes us
  have h3 : UOk (n + 3) (us3 us) := h.take.take.take.up (by omega)
  refine (layU_ok h3 (widN us)).up ?_
  have : ((widN us : Nat) : Int) * ((partsN us : Nat) : Int) ≤ 4 * 4 := Int.mul_le_mul (by omega) (by omega) (by omega) (by omega)
  omega
theorem rU1_ok {us : List Int} {n : Int} (h : UOk n us) : UOk (n + 31) (rU1 us) := ((drawnU_ok h).lims _).up (by
  have := gsN_len (panesN us)
  omega)
theorem rU2_ok {us : List Int} {n : Int} (h : UOk n us) : UOk (n + 35) (rU2 us) := ((rU1_ok h).iter _).up (by
  obtain ⟨_, _, _, _, h5, h6⟩ := sizes us
  omega)
theorem rU3_ok {us : List Int} {n : Int} (h : UOk n us) : UOk (n + 39) (rU3 us) := ((rU2_ok h).iter _).up (by
  obtain ⟨_, _, _, _, h5, h6⟩ := sizes us
  omega)
theorem rU4_ok {us : List Int} {n : Int} (h : UOk n us) : UOk (n + 43) (rU4 us) := ((rU3_ok h).iter 4).up (by omega)
theorem rightU_ok {us : List Int} {n : Int} (h : UOk n us) : UOk (n + 60) (rightU us) := ((rU4_ok h).lots (W := widN us) 4).up (by
  obtain ⟨_, _, _, _, h5, h6⟩ := sizes us
  omega)
def FRight (us : List Int) (ds : List D) (us' : List Int) (d : D) : Prop := ds = [] ∧ UOk 900000 us ∧ us' = rightU us ∧ d = .bl true
section
variable {P : Program} {w : World} {K : PySem.W.Frag} {mg : Str → Option Value} {base : Heap}
theorem evx_urn {A : List Addr} {C : Hp} {b : Bool} {ps : Ds} {t : TA} {u : Addr} {st st' : List Int} {ds : List D} {d : D} {F : List Int → List D → List Int → D → Prop} {E : L2.St → XK} (hu : u ∈ A) (h : EaP b ps t (.adr u :: ds)) (hF : F st ds st' d) :
    EvX A (upd C u (urnO st)) b ps (tCallS (SpU F) E t) d (upd C u (urnO st')) := (evx_callU hu upd_same h hF).to upd_twice
theorem ev_heard {b : Bool} {ps : Ds} {t : TA} {E : L2.St → XK} {L : Lay} {W : Nat} {dr : List Nat} {ls : List (List Nat × Int)} {x y z : D} (door : Nat) (h4 : door < 4) (hT : Told L W dr ls x y z) (h : EaP b ps t [.int (door : Int), x, y, z]) :
    EvP b ps (tCallS (SpR FHeard) E t) (optD (heardO door L W dr ls)) := ev_call h ⟨door, L, W, dr, ls, x, y, z, h4, rfl, hT, rfl⟩
theorem sc_law_right : FnScope ["_law_urn", "_law_layout", "_law_limits", "_law_drawing", "_law_other", "_law_every", "_law_soft", "_law_goods", "_law_moves", "_law_fewest", "_law_told", "_law_none", "_law_things", "_law_got", "_law_due", "_law_lots", "_law_out_here", "_law_far", "_law_own", "_law_lap", "_law_k", "_law_its"] ["_law_urn"] (defScope (top 47)) := ⟨rfl, rfl, rfl, by decide +kernel, rfl, by decide +kernel, by decide +kernel⟩
theorem ok_law_right (T : Txt mg) {C : Addr} (XC : XCan K mg C) (h_law_take : Has P w K mg base "_law_take" ["_law_urn", "_law_below"] 1 (SpU FTake)) (h_law_drawn_layout : Has P w K mg base "_law_drawn_layout" ["_law_urn"] 2 (SpU FLay)) (h_law_drawn_limits : Has P w K mg base "_law_drawn_limits" ["_law_urn", "_law_layout"] 2 (SpU FDLims))
    (h_law_drawn_drawing : Has P w K mg base "_law_drawn_drawing" ["_law_urn", "_law_layout"] 2 (SpU FDrawn)) (h_law_drawings : Has P w K mg base "_law_drawings" ["_law_layout"] 1 (SpR FDraws)) (h_law_lists : Has P w K mg base "_law_lists" ["_law_matter"] 4 (SpR (FLists 3)))
    (h_law_keeps : Has P w K mg base "_law_keeps" ["_law_layout", "_law_drawing", "_law_limits"] 3 (SpR FKeeps)) (h_law_move : Has P w K mg base "_law_move" ["_law_one", "_law_other"] 1 (SpR FMove)) (h_law_heard : Has P w K mg base "_law_heard" ["_law_door", "_law_layout", "_law_drawing", "_law_limits"] 6 (SpR FHeard)) (h_law_is_one : Has P w K mg base "_law_is_one" ["_law_told", "_law_some"] 3 (SpR FIsOne))
    (h_law_of : Has P w K mg base "_law_of" ["_law_urn", "_law_some"] 2 (SpU FOf)) (h_is_least_moved : Has P w K mg base "is_least_moved" ["layout", "drawing", "limits", "thing"] 5 (SpR FLeastQ)) (h_must_move : Has P w K mg base "must_move" ["layout", "drawing", "limits"] 5 (SpR FMust)) (h_can_stay : Has P w K mg base "can_stay" ["layout", "drawing", "limits", "pixels"] 5 (SpR FCan))
    (h_law_out : Has P w K mg base "_law_out" ["_law_layout", "_law_drawing", "_law_limits"] 2 (SpR FLOut)) (h_law_same : Has P w K mg base "_law_same" ["_law_got", "_law_due"] 4 (SpR (FSame 3))) (h_fewest_moved : Has P w K mg base "fewest_moved" ["layout", "drawing", "limits"] 5 (SpE C FFew)) (h_moved : Has P w K mg base "moved" ["layout", "drawing", "other"] 1 (SpR FMoved))
    {f : Addr} {fd : FuncData} (Fn : Fun K "_law_right" "_law_right" (top 47) f fd) : FnOk P w K mg base (L2.CX P w) 7 f fd ["_law_urn"] (SpU FRight) := by
  refine ok_U (k := 6) Fn sc_law_right (fun us ds us' d ⟨e, _⟩ => by subst e; exact ⟨rfl, fun x hx => nomatch hx⟩) fun cdv A outer s H E us ds us' d hr ⟨e, hU, eu, ed⟩ => ?_
  subst e eu ed
  have hr_law_take := hr.mono (by decide : 1 ≤ 6)
  have hr_law_drawn_layout := hr.mono (by decide : 2 ≤ 6)
  have hr_law_drawn_limits := hr.mono (by decide : 2 ≤ 6)
  have hr_law_drawn_drawing := hr.mono (by decide : 2 ≤ 6)
  have hr_law_drawings := hr.mono (by decide : 1 ≤ 6)
  have hr_law_lists := hr.mono (by decide : 4 ≤ 6)
  have hr_law_keeps := hr.mono (by decide : 3 ≤ 6)
  have hr_law_move := hr.mono (by decide : 1 ≤ 6)
  have hr_law_heard := hr
  have hr_law_is_one := hr.mono (by decide : 3 ≤ 6)
  have hr_law_of := hr.mono (by decide : 2 ≤ 6)
  have hr_is_least_moved := hr.mono (by decide : 5 ≤ 6)
  have hr_must_move := hr.mono (by decide : 5 ≤ 6)
  have hr_can_stay := hr.mono (by decide : 5 ≤ 6)
  have hr_law_out := hr.mono (by decide : 2 ≤ 6)
  have hr_law_same := hr.mono (by decide : 4 ≤ 6)
  have hr_fewest_moved := hr.mono (by decide : 5 ≤ 6)
  have hr_moved := hr.mono (by decide : 1 ≤ 6)
  have hu0 := un_of (n := 0) hr
  have hu1 := un_of (n := 1) hr
  have hu4 := un_of (n := 4) hr
  have hu64 := un_of (n := 64) hr
  have hu65 := un_of (n := 65) hr
  obtain ⟨s1, s2, s3, s4, s5, s6⟩ := sizes us
  have hN0 := drawn_nice us
  have hB0 := drawn_bound us
  have hrow := drawn_rows us
  have o1 := rU1_ok hU
  have o2 := rU2_ok hU
  have o3 := rU3_ok hU
  have o4 := rU4_ok hU
  have o0 := drawnU_ok hU
  have eR : rightU us = lotU (rU4 us) (widN us) 4 := rfl
  obtain ⟨L, eL⟩ : ∃ L, L = drawnL us := ⟨_, rfl⟩
  obtain ⟨ls, els⟩ : ∃ ls, ls = drawnO us := ⟨_, rfl⟩
  obtain ⟨W, eW⟩ : ∃ W, W = widN us := ⟨_, rfl⟩
  obtain ⟨n, en⟩ : ∃ n, n = panesN us := ⟨_, rfl⟩
  obtain ⟨dr, edr⟩ : ∃ dr, dr = drawnN (rU1 us) (panesN us : Nat) (widN us) := ⟨_, rfl⟩
  obtain ⟨ot, eot⟩ : ∃ ot, ot = drawnN (rU2 us) (panesN us : Nat) (widN us) := ⟨_, rfl⟩
  obtain ⟨every, eev⟩ : ∃ every, every = drawsN (panesN us) (widN us) := ⟨_, rfl⟩
  have hlims : limsD ls = limsD (limO (drawnL us).parts (drawnU us) (gsN (drawnL us).rows.length) (gsN (drawnL us).rows.length).length) := by
    rw [els, hrow]
    rfl
  have hN : Nice L W ls := by rw [eL, eW, els]; exact hN0
  have hB : ∀ l ∈ ls, ∀ v, v ≤ W → -90000 ≤ exactAt L l.1 v + l.2 ∧ exactAt L l.1 v + l.2 ≤ 90000 := by rw [eL, eW, els]; exact hB0
  have hrw : L.rows.length = n := by rw [eL, en]; exact hrow
  have hdr : DrawOk L W dr := by
    rw [edr, ← en, ← eW]
    exact ⟨drawnN_len, by rw [hrw]; exact drawnN_lt (by omega)⟩
  have hot : DrawOk L W ot := by
    rw [eot, ← en, ← eW]
    exact ⟨drawnN_len, by rw [hrw]; exact drawnN_lt (by omega)⟩
  have hevery : every = drawsN L.rows.length W := by rw [eev, hrw, en, eW]
  have hW4 : W ≤ 4 := by omega
  have hn3 : L.rows.length ≤ 3 := by omega
  have hel : every.length ≤ 81 := by
    rw [hevery, drawsN_len]
    exact Nat.le_trans (Nat.pow_le_pow_left hn3 W) (Nat.le_trans (Nat.pow_le_pow_right (by omega) hW4) (by decide))
  have hel0 : 0 < every.length := by
    rw [hevery, drawsN_len]
    exact Nat.pow_pos (by omega)
  have h4 : ∀ j, j ≤ W → (stAt L ls j).length ≤ 4000 := st_few hn3 hW4
  obtain ⟨gs, egs⟩ : ∃ gs, gs = goods L ls W := ⟨_, rfl⟩
  have hgf : every.filter (fun own => keepsL L own ls) = gs := by rw [hevery, egs]; exact goods_eq hN
  have hgl : gs.length ≤ 81 := by
    rw [← hgf]
    exact Nat.le_trans (List.length_filter_le _ _) hel
  have hgn : gs.Nodup := by rw [egs]; exact goods_nodup
  have hgW : ∀ g ∈ gs, g.length = W := fun g hg => by
    rw [egs] at hg
    exact (mem_goods.mp hg).1
  have hdl := hdr.1
  have hol := hot.1
  have hTold : ∀ {x y z : D}, (x = L.d ∨ x = L.d.lstd) → (y = nats dr ∨ y = natsL dr) → (z = limsD ls ∨ z = (limsD ls).lstd) → Told L W dr ls x y z := fun hx hy hz => told_of hN.hL hN.hl hdr h4 hx hy hz
  refine ⟨_, (pss_cons (ps_set (i := 1) sc_law_right.nd rfl (Or.inr rfl) (pe_has h_law_drawn_layout hr_law_drawn_layout (by rfl) (pa_cons (pv 0) pa_nil) pass0))
      (pss_cons (ps_asg (pe_tup (pa_cons (pe_has h_law_drawn_limits hr_law_drawn_limits (by rfl) (pa_cons (pv 0) (pa_cons (pv 1) pa_nil)) pass0) (pa_cons (pe_has h_law_drawn_drawing hr_law_drawn_drawing (by rfl) (pa_cons (pv 0) (pa_cons (pv 1) pa_nil)) pass0) (pa_cons (pe_has h_law_drawn_drawing hr_law_drawn_drawing (by rfl) (pa_cons (pv 0) (pa_cons (pv 1) pa_nil)) pass0) pa_nil)))) (gT_ K (n := 3) rfl (pgs_cons (pg_name (i := 2) sc_law_right.nd rfl (Or.inr rfl)) (pgs_cons (pg_name (i := 3) sc_law_right.nd rfl (Or.inr rfl)) (pgs_cons (pg_name (i := 4) sc_law_right.nd rfl (Or.inl rfl)) pgs_nil)))))
      (pss_cons (ps_asg (pe_tup (pa_cons (pe_has h_law_drawings hr_law_drawings (by rfl) (pa_cons (pv 1) pa_nil) pass0) (pa_cons (pe_has h_law_lists hr_law_lists (by rfl) (pa_cons (pv 1) pa_nil) pass0) pa_nil))) (gT_ K (n := 2) rfl (pgs_cons (pg_name (i := 5) sc_law_right.nd rfl (Or.inr rfl)) (pgs_cons (pg_name (i := 6) sc_law_right.nd rfl (Or.inr rfl)) pgs_nil))))
      (pss_cons (ps_setLc (i := 7) (own := [("_law_own", 18)]) rfl sc_law_right.nd rfl rfl (sw_true rfl rfl rfl (by decide +kernel)) (iL_ K (pv 5)) (blkOk_by (by rfl)) (fun _ _ _ _ _ => (pg_name (i := 18) sc_law_right.nd rfl (Or.inl rfl))) (fun _ _ _ _ _ => (pts_one (pt_val (pe_has h_law_keeps hr_law_keeps (by rfl) (pa_cons (pv 1) (pa_cons (pv 18) (pa_cons (pv 2) pa_nil))) pass0)))) (fun _ _ _ _ _ => (pv 18)))
      (pss_cons (ps_set (i := 8) sc_law_right.nd rfl (Or.inr rfl) (pe_callTy (call_dictT rfl hu4) (by rfl) T.dict_ bt_dict (pa_cons (pe_lc (own := [("_law_own", 18)]) rfl sc_law_right.nd (iL_ K (pv 7)) (blkOk_by (by rfl)) (fun _ _ _ _ _ => (pg_name (i := 18) sc_law_right.nd rfl (Or.inl rfl))) (fun _ _ _ _ _ => pts_nil) (fun _ _ _ _ _ => (pe_tup (pa_cons (pv 18) (pa_cons (pe_has h_law_move hr_law_move (by rfl) (pa_cons (pv 3) (pa_cons (pv 18) pa_nil)) pass0) pa_nil))))) pa_nil)))
      (pss_cons (ps_set (i := 9) sc_law_right.nd rfl (Or.inr rfl) (pe_ifExp (pt_cmpR (neD_ K hu64) (pv 7) (pe_lst pa_nil) (nomark _)) (pe_callB (min_ K rfl) (by rfl) T.min_ bt_min (pa_cons (pe_lock (pe_lc (own := [("_law_own", 18)]) rfl sc_law_right.nd (pi_valuesT (pv 8)) (blkOk_by (by rfl)) (fun _ _ _ _ _ => (pg_name (i := 18) sc_law_right.nd rfl (Or.inl rfl))) (fun _ _ _ _ _ => pts_nil) (fun _ _ _ _ _ => (pe_callB (len_ K) (by rfl) T.len_ bt_len (pa_cons (pv 18) pa_nil))))) pa_nil)) pe_non))
      (pss_cons (ps_par (i := 10) (j := 11) rfl sc_law_right.nd rfl rfl (by decide) rfl rfl (pa_cons (pe_has h_law_heard hr_law_heard (by rfl) (pa_cons pe_int (pa_cons (pv 6) (pa_cons (pe_callTy (lst_ K) (by rfl) T.list_ bt_list (pa_cons (pv 3) pa_nil)) (pa_cons (pe_has h_law_lists hr_law_lists (by rfl) (pa_cons (pv 2) pa_nil) pass0) pa_nil)))) pass0) (pa_cons (pe_lst (pa_cons pe_str (pa_cons pe_bl pa_nil))) pa_nil)) rfl)
      (pss_cons (ps_if (PW.pt (pw_or (PW.pt (pw_and (pt_cmpR (eqD_ K hu64) (pv 7) (pe_lst pa_nil) (nomark _)) (pw_and1 (pt_cmpR (neD_ K hu64) (pv 10) (pv 11) (nomark _))))) (pw_or1 (PW.pt (pw_and (pt_cmpR (neD_ K hu64) (pv 7) (pe_lst pa_nil) (nomark _)) (pw_and1 (PW.pt (pw_or (pt_not (pt_val (pe_has h_law_is_one hr_law_is_one (by rfl) (pa_cons (pv 10) (pa_cons (pv 7) pa_nil)) pass0))) (pw_or1 (pt_cmpR op_ne (pe_callB (len_ K) (by rfl) T.len_ bt_len (pa_cons (pe_dget hu1 (pv 8) (pv 10) (fun _ _ => rfl)) pa_nil)) (pv 9) (nomark _)))))))))))
      (pss_one (ps_ret pe_bl))
      pss_nil)
      (pss_cons (ps_set (i := 12) sc_law_right.nd rfl (Or.inl rfl) (pe_op op_cat (pe_op op_cat (pe_lc (own := [("_law_lap", 19)]) rfl sc_law_right.nd (pi_range1 (by rfl) T.range_ (pa_cons pe_int pa_nil)) (blkOk_by (by rfl)) (fun _ _ _ _ _ => (pg_name (i := 19) sc_law_right.nd rfl (Or.inl rfl))) (fun _ _ _ _ _ => pts_nil) (fun _ _ _ _ _ => (pe_has h_law_of hr_law_of (by rfl) (pa_cons (pv 0) (pa_cons (pv 5) pa_nil)) pass0))) (pe_slice (slL_ K) (pv 7) po_none (po_some pe_int))) (pe_lst (pa_cons (pv 3) (pa_cons (pe_callTy (lst_ K) (by rfl) T.list_ bt_list (pa_cons (pv 10) pa_nil)) (pa_cons pe_non (pa_cons (pe_slice (slT_ K) (pv 3) (po_some pe_int) po_none) pa_nil)))))))
      (pss_cons (ps_set (i := 13) sc_law_right.nd rfl (Or.inl rfl) (pe_lst (pa_cons (pe_has h_law_heard hr_law_heard (by rfl) (pa_cons pe_int (pa_cons (pv 1) (pa_cons (pv 3) (pa_cons (pv 2) pa_nil)))) pass0) (pa_cons (pe_lc (own := [("_law_own", 18)]) rfl sc_law_right.nd (iL_ K (pv 12)) (blkOk_by (by rfl)) (fun _ _ _ _ _ => (pg_name (i := 18) sc_law_right.nd rfl (Or.inl rfl))) (fun _ _ _ _ _ => pts_nil) (fun _ _ _ _ _ => (pe_has h_is_least_moved hr_is_least_moved (by rfl) (pa_cons (pv 6) (pa_cons (pv 3) (pa_cons (pv 2) (pa_cons (pv 18) pa_nil)))) pass0))) (pa_cons (pe_has h_must_move hr_must_move (by rfl) (pa_cons (pv 1) (pa_cons (pe_callTy (lst_ K) (by rfl) T.list_ bt_list (pa_cons (pv 3) pa_nil)) (pa_cons (pv 2) pa_nil))) pass0) pa_nil)))))
      (pss_cons (ps_set (i := 14) sc_law_right.nd rfl (Or.inl rfl) (pe_lst (pa_cons (pe_ifExp (pt_cmpR (neD_ K hu64) (pv 7) (pe_lst pa_nil) (nomark _)) (pv 9) (pv 11)) (pa_cons (pe_lc (own := [("_law_own", 18)]) rfl sc_law_right.nd (iL_ K (pv 12)) (blkOk_by (by rfl)) (fun _ _ _ _ _ => (pg_name (i := 18) sc_law_right.nd rfl (Or.inl rfl))) (fun _ _ _ _ _ => pts_nil) (fun _ _ _ _ _ => (pe_and (pe_callB (isi_ K) (by rfl) T.isinstance_ bt_isinstance (pa_cons (pv 18) (pa_cons (pe_bltn (v := .ty "tuple") (by rfl) T.tuple_ bt_tuple rfl) pa_nil))) (pe_and (pe_cmp (pc_din hu1 (pv 18) (pv 8))) (pe_one (pe_cmpR op_eq (pe_callB (len_ K) (by rfl) T.len_ bt_len (pa_cons (pe_dget hu1 (pv 8) (pv 18) (fun _ _ => rfl)) pa_nil)) (pv 9) (nomark _))))))) pa_nil))))
      (pss_cons (ps_expr (pe_bm PySem.F.plainAttrs_list PySem.F.slot_list_append PySem.F.type_list_append mt_append (pv 14) (pa_cons (pe_callTy (tup_ K) (by rfl) T.tuple_ bt_tuple (pa_cons (pe_lc (own := [("_law_k", 20)]) rfl sc_law_right.nd (pi_range1 (by rfl) T.range_ (pa_cons (pe_callB (len_ K) (by rfl) T.len_ bt_len (pa_cons (pv 3) pa_nil)) pa_nil)) (blkOk_by (by rfl)) (fun _ _ _ _ _ => (pg_name (i := 20) sc_law_right.nd rfl (Or.inr rfl))) (fun _ _ _ _ _ => (pts_one (pt_cmpR (eqD_ K hu64) (pe_lock (pe_lc (own := [("_law_own", 18)]) rfl sc_law_right.nd (pi_valuesT (pv 8)) (blkOk_by (by rfl)) (fun _ _ _ _ _ => (pg_name (i := 18) sc_law_right.nd rfl (Or.inl rfl))) (fun _ _ _ _ _ => (pts_one (pt_cmpR (ninS_ K) (pv 20) (pv 18) rfl))) (fun _ _ _ _ _ => (pv 18)))) (pe_lst pa_nil) (nomark _)))) (fun _ _ _ _ _ => (pv 20))) pa_nil)) pa_nil)))
      (pss_cons (ps_set (i := 15) sc_law_right.nd rfl (Or.inl rfl) (pe_op op_cat (pe_lc (own := [("_law_lap", 19)]) rfl sc_law_right.nd (pi_range1 (by rfl) T.range_ (pa_cons pe_int pa_nil)) (blkOk_by (by rfl)) (fun _ _ _ _ _ => (pg_name (i := 19) sc_law_right.nd rfl (Or.inl rfl))) (fun _ _ _ _ _ => pts_nil) (fun _ _ _ _ _ => (pe_callTy (tup_ K) (by rfl) T.tuple_ bt_tuple (pa_cons (pe_lc (own := [("_law_k", 20)]) rfl sc_law_right.nd (pi_range1 (by rfl) T.range_ (pa_cons (pe_callB (len_ K) (by rfl) T.len_ bt_len (pa_cons (pv 3) pa_nil)) pa_nil)) (blkOk_by (by rfl)) (fun _ _ _ _ _ => (pg_name (i := 20) sc_law_right.nd rfl (Or.inl rfl))) (fun _ _ _ _ _ => (pts_one (pt_cmpR op_eq (pe_has h_law_take hr_law_take (by rfl) (pa_cons (pv 0) (pa_cons pe_int pa_nil)) pass0) pe_int (nomark _)))) (fun _ _ _ _ _ => (pv 20))) pa_nil)))) (pe_lst (pa_cons (pe_tup pa_nil) pa_nil))))
      (pss_cons (ps_expr (pe_bm PySem.F.plainAttrs_list PySem.F.slot_list_append PySem.F.type_list_append mt_append (pv 13) (pa_cons (pe_lc (own := [("_law_own", 18)]) rfl sc_law_right.nd (iL_ K (pv 15)) (blkOk_by (by rfl)) (fun _ _ _ _ _ => (pg_name (i := 18) sc_law_right.nd rfl (Or.inl rfl))) (fun _ _ _ _ _ => pts_nil) (fun _ _ _ _ _ => (pe_has h_can_stay hr_can_stay (by rfl) (pa_cons (pv 6) (pa_cons (pv 3) (pa_cons (pv 2) (pa_cons (pv 18) pa_nil)))) pass0))) pa_nil)))
      (pss_cons (ps_expr (pe_bm PySem.F.plainAttrs_list PySem.F.slot_list_append PySem.F.type_list_append mt_append (pv 14) (pa_cons (pe_lc (own := [("_law_own", 18)]) rfl sc_law_right.nd (iL_ K (pv 15)) (blkOk_by (by rfl)) (fun _ _ _ _ _ => (pg_name (i := 18) sc_law_right.nd rfl (Or.inr rfl))) (fun _ _ _ _ _ => pts_nil) (fun _ _ _ _ _ => (pe_cmpR (neD_ K hu64) (pe_lock (pe_lc (own := [("_law_far", 17)]) rfl sc_law_right.nd (pi_valuesT (pv 8)) (blkOk_by (by rfl)) (fun _ _ _ _ _ => (pg_name (i := 17) sc_law_right.nd rfl (Or.inr rfl))) (fun _ _ _ _ _ => (pts_one (pt_cmpR (eqD_ K hu64) (pe_lc (own := [("_law_its", 21)]) rfl sc_law_right.nd (iT_ K (pv 18)) (blkOk_by (by rfl)) (fun _ _ _ _ _ => (pg_name (i := 21) sc_law_right.nd rfl (Or.inl rfl))) (fun _ _ _ _ _ => (pts_one (pt_cmpR (inS_ K) (pv 21) (pv 17) rfl))) (fun _ _ _ _ _ => (pv 21))) (pe_lst pa_nil) (nomark _)))) (fun _ _ _ _ _ => pe_int))) (pe_lst pa_nil) (nomark _)))) pa_nil)))
      (pss_cons (ps_expr (pe_bm PySem.F.plainAttrs_list PySem.F.slot_list_append PySem.F.type_list_append mt_append (pv 13) (pa_cons (pe_has h_law_heard hr_law_heard (by rfl) (pa_cons pe_int (pa_cons (pv 1) (pa_cons (pv 3) (pa_cons (pv 2) pa_nil)))) pass0) pa_nil)))
      (pss_cons (ps_expr (pe_bm PySem.F.plainAttrs_list PySem.F.slot_list_append PySem.F.type_list_append mt_append (pv 14) (pa_cons (pe_ifExp (pt_cmpR (neD_ K hu64) (pv 7) (pe_lst pa_nil) (nomark _)) (pe_callB (max_ K rfl) (by rfl) T.max_ bt_max (pa_cons (pe_lock (pe_lc (own := [("_law_own", 18)]) rfl sc_law_right.nd (pi_valuesT (pv 8)) (blkOk_by (by rfl)) (fun _ _ _ _ _ => (pg_name (i := 18) sc_law_right.nd rfl (Or.inl rfl))) (fun _ _ _ _ _ => pts_nil) (fun _ _ _ _ _ => (pe_callB (min_ K rfl) (by rfl) T.min_ bt_min (pa_cons (pe_op op_cat (pv 18) (pe_lst (pa_cons (pe_callB (len_ K) (by rfl) T.len_ bt_len (pa_cons (pv 3) pa_nil)) pa_nil))) pa_nil))))) pa_nil)) (pv 11)) pa_nil)))
      (pss_cons (ps_set (i := 16) sc_law_right.nd rfl (Or.inl rfl) (pe_has h_law_out hr_law_out (by rfl) (pa_cons (pv 1) (pa_cons (pv 3) (pa_cons (pv 2) pa_nil))) pass0))
      (pss_cons (ps_expr (pe_bm PySem.F.plainAttrs_list PySem.F.slot_list_append PySem.F.type_list_append mt_append (pv 13) (pa_cons (pe_has h_law_heard hr_law_heard (by rfl) (pa_cons pe_int (pa_cons (pv 1) (pa_cons (pe_callTy (lst_ K) (by rfl) T.list_ bt_list (pa_cons (pv 3) pa_nil)) (pa_cons (pv 2) pa_nil)))) pass0) pa_nil)))
      (pss_cons (ps_expr (pe_bm PySem.F.plainAttrs_list PySem.F.slot_list_append PySem.F.type_list_append mt_append (pv 14) (pa_cons (pe_ifExp (pt_cmpR op_isN (pv 16) pe_non (nomark _)) (pv 11) (pv 16)) pa_nil)))
      (pss_cons (ps_if (pt_not (pt_val (pe_has h_law_same hr_law_same (by rfl) (pa_cons (pv 13) (pa_cons (pv 14) pa_nil)) pass0)))
      (pss_one (ps_ret pe_bl))
      pss_nil)
      (pss_cons (ps_if (pt_cmpR (eqD_ K hu64) (pv 7) (pe_lst pa_nil) (nomark _))
      (pss_one (ps_ret pe_bl))
      pss_nil)
      (pss_cons (ps_set (i := 17) sc_law_right.nd rfl (Or.inl rfl) (pe_has h_fewest_moved hr_fewest_moved (by rfl) (pa_cons (pv 1) (pa_cons (pv 4) (pa_cons (pv 2) pa_nil))) pass0))
      (pss_one (ps_ret (pe_and (pe_cmpR op_eq (pe_cmpR op_eq (pv 9) pe_int (nomark _)) (pe_cmpR (inD_ K hu65) (pv 3) (pv 7) rfl) (nomark _)) (pe_and (pe_cmpR op_notN (pv 16) pe_non (nomark _)) (pe_and (pe_cmpR op_ge (pv 9) (pv 16) (nomark _)) (pe_one (pe_cmpR op_le (pv 9) (pe_op op_add (pe_callB (len_ K) (by rfl) T.len_ bt_len (pa_cons (pe_has h_moved hr_moved (by rfl) (pa_cons (pv 1) (pa_cons (pv 3) (pa_cons (pv 4) pa_nil))) pass0) pa_nil)) (pv 17)) (nomark _))))))))))))))))))))))))))))))), fun σ Dn u a0 fin => ?_⟩
  have hu : u ∈ [u] := List.mem_singleton.mpr rfl
  have a0 : At true (tups H) H [u] (upd (fun _ => none) u (urnO us)) [some (.adr u), none, none, none, none, none, none, none, none, none, none, none, none, none, none, none, none, none, none, none, none, none] σ H := a0
  -- layout
  refine tseq_ (a0.asg (evx_urn hu (ea_cons (ev_var rfl) ea_nil) ⟨rfl, hU, rfl, rfl⟩) fun v1 H1 e1 a1' => ?_)
  rw [← eL] at a1'
  have a1 : At true (tups H) H [u] (upd (fun _ => none) u (urnO (drawnU us))) [some (.adr u), some (L.d), none, none, none, none, none, none, none, none, none, none, none, none, none, none, none, none, none, none, none, none] _ H1 := a1'
  -- limits, drawing, other
  dsimp only
  refine tseq_ (a1.ev (evx_tup (ds := [limsD ls, nats dr, nats ot]) (eax_cons (evx_urn (st' := rU1 us) hu (ea_cons (ev_var rfl) (ea_cons (ev_var rfl) ea_nil)) ⟨L, W, rfl, hN.hL, hn3, o0.up (by omega), ?_, ?_⟩) (eax_cons (evx_urn (st' := rU2 us) hu (ea_cons (ev_var rfl) (ea_cons (ev_var rfl) ea_nil)) ⟨L, W, rfl, hN.hL, o1.up (by omega), ?_, ?_⟩) (eax_cons (evx_urn (st' := rU3 us) hu (ea_cons (ev_var rfl) (ea_cons (ev_var rfl) ea_nil)) ⟨L, W, rfl, hN.hL, o2.up (by omega), ?_, ?_⟩) eax_nil))) (by simp)) fun v2 H2 e2 a2' r2 => ?_)
  · unfold rU1
    rw [eL, hrow]
    rfl
  · rw [hlims, eL]
  · unfold rU2
    rw [hrw, en, eW]
  · rw [edr, hrw, en, eW]
  · unfold rU3
    rw [hrw, en, eW]
  · rw [eot, hrw, en, eW]
  refine a2'.gd (vs := [2, 3, 4]) (gd_tup (gs_cons gd_name (gs_cons gd_name (gs_cons gd_name gs_nil))) rfl) r2 fun σ2 a3' => ?_
  dsimp only
  have a3 : At true (tups H) H [u] (upd (fun _ => none) u (urnO (rU3 us))) [some (.adr u), some (L.d), some (limsD ls), some (nats dr), some (nats ot), none, none, none, none, none, none, none, none, none, none, none, none, none, none, none, none, none] σ2 H2 := a3'
  -- every, soft
  refine tseq_ (a3.sd (W := fun _ _ => False) (sd_asg (vs := [5, 6]) (ev_tup (ds := [.lst (every.map nats), L.d.lstd]) (ea_cons (ev_call (F := FDraws) (ea_cons (ev_var rfl) ea_nil) ⟨L, W, rfl, hN.hL, ?_, by rw [hevery]⟩) (ea_cons (ev_call (F := FLists 3) (ea_cons (ev_var rfl) ea_nil) ⟨L.d, rfl, nsT_lay hN.hL, rfl⟩) ea_nil)) (by simp)) (gd_tup (gs_cons gd_name (gs_cons gd_name gs_nil)) rfl)) fun σ3 H3 e3 a4' => ?_)
  · rw [← drawsN_len, ← hevery]
    omega
  dsimp only
  have a4 : At true (tups H) H [u] (upd (fun _ => none) u (urnO (rU3 us))) [some (.adr u), some (L.d), some (limsD ls), some (nats dr), some (nats ot), some (.lst (every.map nats)), some (L.d.lstd), none, none, none, none, none, none, none, none, none, none, none, none, none, none, none] σ3 H3 := a4'
  -- goods
  refine tseq_ (a4.sd (W := fun _ _ => False) (sd_set (ev_lc every nats (fun g => [some (.adr u), some (L.d), some (limsD ls), some (nats dr), some (nats ot), some (.lst (every.map nats)), some (L.d.lstd), none, none, none, none, none, none, none, none, none, none, none, some (nats g), none, none, none]) (fun g => keepsL L g ls) nats (r := .lst (gs.map nats)) (by rw [hgf]) (by omega) (iv_lst (ev_var rfl)) (fun g hg => gd_1) (fun g hg => et_B (ev_call (F := FKeeps) (ea_cons (ev_var rfl) (ea_cons (ev_var rfl) (ea_cons (ev_var rfl) ea_nil))) ⟨L, W, g, ls, rfl, hN.hL, hN.hl, by rw [hevery] at hg; rw [(drawsN_mem.mp hg).1]; exact Nat.le_refl _, rfl⟩)) fun g hg _ => ev_var rfl)) fun σ4 H4 e4 a5' => ?_)
  dsimp only
  have a5 : At true (tups H) H [u] (upd (fun _ => none) u (urnO (rU3 us))) [some (.adr u), some (L.d), some (limsD ls), some (nats dr), some (nats ot), some (.lst (every.map nats)), some (L.d.lstd), some (.lst (gs.map nats)), none, none, none, none, none, none, none, none, none, none, none, none, none, none] σ4 H4 := a5'
  -- moves
  refine tseq_ (a5.sd (W := fun _ _ => False) (sd_set (EvP.is (ev_dict (ks := movK dr gs) (ea_cons (ev_lcA gs nats (fun g => [some (.adr u), some (L.d), some (limsD ls), some (nats dr), some (nats ot), some (.lst (every.map nats)), some (L.d.lstd), some (.lst (gs.map nats)), none, none, none, none, none, none, none, none, none, none, some (nats g), none, none, none]) (fun g => pairD (castN g, natsL (moveN dr g))) (by unfold movK; rw [List.map_map]; rfl) (by omega) (iv_lst (ev_var rfl)) (fun g hg => gd_1) fun g hg => EvP.is (ev_tup (ds := [nats g, natsL (moveN dr g)]) (ea_cons (ev_var rfl) (ea_cons (ev_call (F := FMove) (ea_cons (ev_var rfl) (ea_cons (ev_var rfl) ea_nil)) ⟨dr, g, rfl, by rw [hgW g hg, hdl], by omega, rfl⟩) ea_nil)) (by simp)) (by rw [nats_key]; rfl)) ea_nil)) (by rw [mergeD_nodup (movK_keys dr hgn)]))) fun σ5 H5 e5 a6' => ?_)
  dsimp only
  have a6 : At true (tups H) H [u] (upd (fun _ => none) u (urnO (rU3 us))) [some (.adr u), some (L.d), some (limsD ls), some (nats dr), some (nats ot), some (.lst (every.map nats)), some (L.d.lstd), some (.lst (gs.map nats)), some (.dct (movK dr gs)), none, none, none, none, none, none, none, none, none, none, none, none, none] σ5 H5 := a6'
  have hshg : ∀ d ∈ gs.map nats, Sh 1 d := fun d hd => by
    obtain ⟨g, _, rfl⟩ := List.mem_map.mp hd
    exact sh_nats g
  have hemp : (gs.map nats).isEmpty = gs.isEmpty := by cases gs <;> rfl
  have hvals : (movK dr gs).map (·.2) = (gs.map (moveN dr)).map natsL := by
    unfold movK
    rw [List.map_map, List.map_map]
    rfl
  -- fewest
  obtain ⟨fewD, efew⟩ : ∃ d : D, d = if gs = [] then .non else .int (fewZ L ls W dr) := ⟨_, rfl⟩
  refine tseq_ (a6.sd (W := fun _ _ => False) (sd_set (d := fewD) (ev_if (et_test (ev_neNil (n := 1) (ev_var rfl) hshg)) (fun hc => ?_) fun hc => ?_)) fun σ6 H6 e6 a7' => ?_)
  · have hne : gs ≠ [] := fun z => by rw [z] at hc; cases hc
    rw [efew, if_neg hne]
    refine EvP.is (ev_minL (ns := (gs.map (moveN dr)).map fun own => ((own.length : Nat) : Int)) (ea_cons (ev_lockD (j := 8) rfl (fun y hy => by
      obtain ⟨v, _, rfl⟩ := List.mem_map.mp hy
      exact .int v) (ev_lcA (gs.map (moveN dr)) natsL (fun own => [some (.adr u), some (L.d), some (limsD ls), some (nats dr), some (nats ot), some (.lst (every.map nats)), some (L.d.lstd), some (.lst (gs.map nats)), some (.lkd (movK dr gs)), none, none, none, none, none, none, none, none, none, some (natsL own), none, none, none]) (fun own => .int ((own.length : Nat) : Int)) (by rw [List.map_map]; rfl) (by rw [List.length_map]; omega) (IvP.is (iv_vals (ev_var rfl)) hvals) (fun own _ => gd_1) fun own _ => EvP.is (ev_lenL (ea_cons (ev_var rfl) ea_nil)) (by rw [List.length_map]))) ea_nil) (by simpa using hne)) ?_
    unfold fewZ
    rw [← egs]
  · have hne : gs = [] := by
      cases hgs : gs with
      | nil => rfl
      | cons g r => rw [hgs] at hc; cases hc
    rw [efew, if_pos hne]
    exact ev_non
  dsimp only
  have a7 : At true (tups H) H [u] (upd (fun _ => none) u (urnO (rU3 us))) [some (.adr u), some (L.d), some (limsD ls), some (nats dr), some (nats ot), some (.lst (every.map nats)), some (L.d.lstd), some (.lst (gs.map nats)), some (.dct (movK dr gs)), some (fewD), none, none, none, none, none, none, none, none, none, none, none, none] σ6 H6 := a7'
  -- told, none
  obtain ⟨toldD, etold⟩ : ∃ d : D, d = optD (heardO 1 L W dr ls) := ⟨_, rfl⟩
  have hlistdr : ∀ {b : Bool} {ps : Ds}, ps[3]? = some (some (nats dr)) → EvP b ps (tCB (rLstQ K) (tCons (tVar 3) tNil)) (natsL dr) := fun h => ev_lstT (ea_cons (ev_var h) ea_nil)
  refine tseq_ (a7.sd (W := fun _ _ => False) (sd_par (d := toldD) (e := canD) (ea_cons (EvP.is (ev_heard 1 (by decide) (hTold (.inr rfl) (.inr rfl) (.inr rfl)) (ea_cons ev_int (ea_cons (ev_var rfl) (ea_cons (hlistdr rfl) (ea_cons (ev_call (F := FLists 3) (ea_cons (ev_var rfl) ea_nil) ⟨limsD ls, rfl, nsT_lims hN.hl, rfl⟩) ea_nil))))) etold.symm) (ea_cons (ev_lst (ea_cons ev_str (ea_cons ev_bl ea_nil)) (by simp)) ea_nil))) fun σ7 H7 e7 a8' => ?_)
  dsimp only
  have a8 : At true (tups H) H [u] (upd (fun _ => none) u (urnO (rU3 us))) [some (.adr u), some (L.d), some (limsD ls), some (nats dr), some (nats ot), some (.lst (every.map nats)), some (L.d.lstd), some (.lst (gs.map nats)), some (.dct (movK dr gs)), some (fewD), some (toldD), some (canD), none, none, none, none, none, none, none, none, none, none] σ7 H7 := a8'
  have hleast := least_eq (L := L) (ls := ls) hdl
  rw [← egs] at hleast
  have htold0 : gs = [] → toldD = canD := fun h => by
    rw [etold]
    unfold heardO
    rw [hleast.1 h]
    rfl
  have htold1 : gs ≠ [] → ∃ t, toldD = nats t ∧ t ∈ gs ∧ ((moveN dr t).length : Nat) = fewZ L ls W dr := fun h => by
    obtain ⟨t, h1, h2, h3⟩ := hleast.2 h
    refine ⟨t, ?_, h2, h3⟩
    rw [etold]
    unfold heardO
    rw [h1]
    rfl
  have hcanSh : Sh 1 canD := .lst fun d hd => by
    rcases List.mem_cons.mp hd with rfl | hd
    · exact .str _ (by decide +kernel)
    · rw [List.mem_singleton.mp hd]
      exact .bl _
  have hcanEq : PyData.eqv canD.py canD.py = true := PySem.SeqAt.eqv_refl _ hcanSh.ok.2.2
  have hisE : gs.isEmpty = true → gs = [] := List.isEmpty_iff.mp
  -- the first test
  refine tseq_ (a8.etP (c := false) (EtP.is (et_or (k := false) (et_and (k := false) (et_test (ev_eqNil (n := 1) (ev_var rfl) hshg)) (fun hc => et_test (EvP.is (ev_neS' (n := 1) (m := 1) (ev_var rfl) (ev_var rfl) ?_ hcanSh) ?_))) fun _ => EtP.is (et_and (k := false) (et_test (ev_neNil (n := 1) (ev_var rfl) hshg)) (fun hc => ?_)) (Bool.and_false _)) ?_) fun H8 e8 a9 => ?_)
  · rw [hemp] at hc
    rw [htold0 (hisE hc)]
    exact hcanSh
  · rw [hemp] at hc
    rw [htold0 (hisE hc), hcanEq]
    rfl
  · have hne : gs ≠ [] := fun z => by rw [z] at hc; cases hc
    obtain ⟨t, e1, e2, e3⟩ := htold1 hne
    refine EtP.is (et_or (c := false) (k := false) (EtP.is (et_not (et_B (ev_call (F := FIsOne) (ea_cons (EvP.is (ev_var rfl) e1) (ea_cons (ev_var rfl) ea_nil)) ⟨t, gs, rfl, fun g hg => by rw [hgW g hg, hgW t e2], by rw [hgW t e2]; omega, by omega, rfl⟩))) (by rw [decide_eq_true e2]; rfl)) fun _ => et_test (EvP.is (ev_neI (j := fewZ L ls W dr) (EvP.is (ev_lenL (ea_cons (ev_dget (ks := movK dr gs) (k := castN t) (ev_var rfl) rfl (EvP.is (ev_var rfl) ?_) (by rw [valD_mov, if_pos e2]; rfl)) ea_nil)) (by rw [List.length_map])) (EvP.is (ev_var rfl) ?_)) ?_)) rfl
    · rw [e1, nats_key]
      rfl
    · rw [efew, if_neg hne]
    · rw [e3, decide_eq_true rfl]
      rfl
  · first | rfl | simp
  rw [if_neg (by decide)]
  unfold tNext
  dsimp only
  -- things
  obtain ⟨tlD, etl⟩ : ∃ d : D, d = if gs = [] then canD else toldD.lstd := ⟨_, rfl⟩
  have htl : ∀ {b : Bool} {ps : Ds}, ps[10]? = some (some toldD) → EvP b ps (tCB (rLstQ K) (tCons (tVar 10) tNil)) tlD := fun {b ps} h => by
    by_cases hg : gs = []
    · rw [etl, if_pos hg]
      exact ev_lstL (ea_cons (EvP.is (ev_var h) (htold0 hg)) ea_nil)
    · obtain ⟨t, e1, e2, e3⟩ := htold1 hg
      rw [etl, if_neg hg, e1]
      refine EvP.is (ev_lstT (ea_cons (EvP.is (ev_var h) e1) ea_nil)) ?_
      unfold nats
      rw [D.lstd, lstds_map, List.map_map]
      rfl
  have htlN : ∃ m, tlD.tyN = some m ∧ kitB m "tuple" = some false := by
    by_cases hg : gs = []
    · rw [etl, if_pos hg]
      exact ⟨"list", rfl, by decide +kernel⟩
    · obtain ⟨t, e1, _⟩ := htold1 hg
      rw [etl, if_neg hg, e1]
      unfold nats
      rw [D.lstd]
      exact ⟨"list", rfl, by decide +kernel⟩
  have htlI : ∃ m, Nst m tlD := by
    by_cases hg : gs = []
    · rw [etl, if_pos hg]
      exact ⟨1, .lst (fun d hd => by
        rcases List.mem_cons.mp hd with rfl | hd
        · exact .atom rfl
        · rw [List.mem_singleton.mp hd]; exact .atom rfl) (by simp)⟩
    · obtain ⟨t, e1, e2, _⟩ := htold1 hg
      rw [etl, if_neg hg, e1]
      exact ⟨1, (nsT_nats (by rw [hgW t e2]; omega)).both.2.1⟩
  obtain ⟨ths, eths⟩ : ∃ ths : List (List Nat ⊕ D), ths = ((List.range 4).map fun i => Sum.inl (ofN (rU3 us) every i)) ++ (gs.take 3).map Sum.inl ++ [.inl dr, .inr tlD, .inr .non, .inl (dr.drop 1)] := ⟨_, rfl⟩
  have hthl : ths.length ≤ 11 := by
    rw [eths]
    simp
    omega
  have hthD : ths.map thD = ((List.range 4).map fun i => nats (ofN (rU3 us) every i)) ++ (gs.take 3).map nats ++ [nats dr, tlD, .non, nats (dr.drop 1)] := by
    rw [eths, List.map_append, List.map_append, List.map_map, List.map_map]
    rfl
  have hU4 : iterS (rU3 us) (every.length : Nat) 4 = rU4 us := by
    unfold rU4
    rw [eev]
  have hofs := evx_lc (A := [u]) (ps := [some (.adr u), some (L.d), some (limsD ls), some (nats dr), some (nats ot), some (.lst (every.map nats)), some (L.d.lstd), some (.lst (gs.map nats)), some (.dct (movK dr gs)), some (fewD), some (toldD), some (canD), none, none, none, none, none, none, none, none, none, none]) (b := true) (tt := tYes) (g := gName 19) (vs := [19]) (te := tCallS (SpU FOf) (fun _ => E0) (tCons (tVar 0) (tCons (tVar 5) tNil))) (items := (List.range 4).map fun (i : Nat) => D.int (i : Int)) (wi := iRng1 (tCons (tC (.int 4)) tNil)) (fun i => upd (fun _ => none) u (urnO (iterS (rU3 us) (every.length : Nat) i))) (fun i => upd (fun _ => none) u (urnO (iterS (rU3 us) (every.length : Nat) i))) (fun i => [some (.adr u), some (L.d), some (limsD ls), some (nats dr), some (nats ot), some (.lst (every.map nats)), some (L.d.lstd), some (.lst (gs.map nats)), some (.dct (movK dr gs)), some (fewD), some (toldD), some (canD), none, none, none, none, none, none, none, some (.int (i : Nat)), none, none]) (fun _ => true) (fun i => nats (ofN (rU3 us) every i)) (fun i => (List.range i).map fun j => nats (ofN (rU3 us) every j))
    (IvP.is (iv_rng1 (n := 4) (ea_cons ev_int ea_nil) rfl) (rng0 _)) (fun i d hd => by obtain ⟨_, rfl⟩ := rng_items hd; exact gd_1) (fun i hi => EtP.x et_yes) (fun i hi _ => ⟨evx_urn hu (ea_cons (ev_var rfl) (ea_cons (ev_var rfl) ea_nil)) ⟨every, rfl, hel0, by omega, ((o3.iter i).up (by rw [List.length_map, List.length_range] at hi; omega)), rfl, rfl⟩, by rw [List.range_succ, List.map_append]; rfl⟩) (fun i hi z => nomatch z) rfl (by simp)
  rw [List.length_map, List.length_range, hU4] at hofs
  have hsl3 : ∀ {b : Bool} {ps : Ds}, ps[7]? = some (some (.lst (gs.map nats))) → EvP b ps (tSl (rSlL K) (tVar 7) tNoPart (tPart (tC (.int 3)))) (.lst ((gs.take 3).map nats)) := fun h => EvP.is (ev_sliceL (lo := none) (hi := some 3) (ev_var h) eo_none (eo_some ev_int)) (by
    rw [show (some (3 : Int)) = some ((3 : Nat) : Int) from rfl]
    unfold cutD
    rw [HT.sIx_none, HT.sIx_nat, List.drop_zero, Nat.sub_zero, ← List.take_eq_take_min, List.map_take])
  have hdr1 : ∀ {b : Bool} {ps : Ds}, ps[3]? = some (some (nats dr)) → EvP b ps (tSl (rSlA K) (tVar 3) (tPart (tC (.int 1))) tNoPart) (nats (dr.drop 1)) := fun h => EvP.is (ev_sliceT (lo := some 1) (hi := none) (ev_var h) (eo_some ev_int) eo_none) (by
    rw [show (some (1 : Int)) = some ((1 : Nat) : Int) from rfl, cutD_suf (by rw [List.length_map]; omega), ← List.map_drop]
    rfl)
  refine tseq_ (a9.asg (EvX.is (e := .lst (ths.map thD)) (evx_catL (evx_catL hofs (hsl3 rfl).x (by rw [List.length_map, List.length_map, List.length_range, List.length_take]; omega)) (ev_lst (ea_cons (ev_var rfl) (ea_cons (htl rfl) (ea_cons ev_non (ea_cons (hdr1 rfl) ea_nil)))) (by simp)).x (by simp; omega)) (by rw [hthD])) fun v9 H9 e9 a10' => ?_)
  dsimp only
  have a10 : At true (tups H) H [u] (upd (fun _ => none) u (urnO (rU4 us))) [some (.adr u), some (L.d), some (limsD ls), some (nats dr), some (nats ot), some (.lst (every.map nats)), some (L.d.lstd), some (.lst (gs.map nats)), some (.dct (movK dr gs)), some (fewD), some (toldD), some (canD), some (.lst (ths.map thD)), none, none, none, none, none, none, none, none, none] _ H9 := a10'
  -- the answers: the fewest, what is one, which must move
  have hevW : ∀ t ∈ every, t.length = W := fun t ht => by
    rw [hevery] at ht
    exact (drawsN_mem.mp ht).1
  have hths : ∀ x ∈ ths, (∃ t, x = .inl t ∧ t.length ≤ 4) ∨ ∃ d, x = .inr d ∧ (∃ m, d.tyN = some m ∧ kitB m "tuple" = some false) ∧ ∃ m, Nst m d := fun x hx => by
    rw [eths] at hx
    rcases List.mem_append.mp hx with hx | hx
    · rcases List.mem_append.mp hx with hx | hx
      · obtain ⟨i, _, rfl⟩ := List.mem_map.mp hx
        refine .inl ⟨_, rfl, ?_⟩
        unfold ofN
        rw [List.getD_eq_getElem?_getD]
        cases hq : every[(takeV (iterS (rU3 us) (every.length : Nat) i) (every.length : Nat)).toNat]? with
        | none => simp
        | some t =>
          have := hevW t (List.mem_of_getElem? hq)
          show t.length ≤ 4
          omega
      · obtain ⟨t, ht, rfl⟩ := List.mem_map.mp hx
        refine .inl ⟨_, rfl, ?_⟩
        rw [hgW t (List.mem_of_mem_take ht)]
        exact hW4
    · rcases List.mem_cons.mp hx with rfl | hx
      · exact .inl ⟨_, rfl, by omega⟩
      · rcases List.mem_cons.mp hx with rfl | hx
        · exact .inr ⟨_, rfl, htlN, htlI⟩
        · rcases List.mem_cons.mp hx with rfl | hx
          · exact .inr ⟨_, rfl, ⟨"NoneType", rfl, by decide +kernel⟩, 0, .atom rfl⟩
          · rw [List.mem_singleton.mp hx]
            exact .inl ⟨_, rfl, by rw [List.length_drop]; omega⟩
  obtain ⟨v0, ev0⟩ : ∃ d : D, d = if gs = [] then canD else .int (fewZ L ls W dr) := ⟨_, rfl⟩
  obtain ⟨v1, ev1⟩ : ∃ d : D, d = .lst (ths.map fun x => .bl (oneB gs dr (fewZ L ls W dr) x)) := ⟨_, rfl⟩
  obtain ⟨v2, ev2⟩ : ∃ d : D, d = nats (mustN L ls W dr) := ⟨_, rfl⟩
  have hthing : ∀ t, thingB L W ls dr (nats t) t = (decide (t ∈ gs) && decide (((moveN dr t).length : Int) = fewZ L ls W dr)) := fun t => by
    unfold thingB
    by_cases hb : drawB L W t = true
    · rw [hb, Bool.true_and, thing_eq hdl hb, egs]
    · rw [Bool.eq_false_iff.mpr hb, Bool.false_and]
      have : t ∉ gs := fun z => hb (by
        rw [egs] at z
        obtain ⟨z1, z2⟩ := mem_goods.mp z
        unfold drawB
        rw [Bool.and_eq_true, decide_eq_true_iff, List.all_eq_true]
        exact ⟨z1, fun p hp => decide_eq_true (z2.lt p hp)⟩)
      rw [decide_eq_false this, Bool.false_and]
  refine tseq_ (a10.newLs (i := 13) (ds := [v0, v1, v2]) (ea_cons (EvP.is (ev_heard 0 (by decide) (hTold (.inl rfl) (.inl rfl) (.inl rfl)) (ea_cons ev_int (ea_cons (ev_var rfl) (ea_cons (ev_var rfl) (ea_cons (ev_var rfl) ea_nil))))) ?_) (ea_cons (ev_lcA ths thD (fun x => [some (.adr u), some (L.d), some (limsD ls), some (nats dr), some (nats ot), some (.lst (every.map nats)), some (L.d.lstd), some (.lst (gs.map nats)), some (.dct (movK dr gs)), some (fewD), some (toldD), some (canD), some (.lst (ths.map thD)), none, none, none, none, none, some (thD x), none, none, none]) (fun x => .bl (oneB gs dr (fewZ L ls W dr) x)) ev1 (by omega) (iv_lst (ev_var rfl)) (fun x hx => gd_1) fun x hx => ?_) (ea_cons (EvP.is (ev_call (F := FMust) (ea_cons (ev_var rfl) (ea_cons (hlistdr rfl) (ea_cons (ev_var rfl) ea_nil))) ⟨L, W, dr, ls, _, _, _, rfl, hTold (.inl rfl) (.inr rfl) (.inl rfl), rfl⟩) ev2.symm) ea_nil))) (by simp) fun pg vg H10 e10 hg1 hg2 hg3 a11' rg0 => ?_)
  · rw [ev0]
    unfold heardO
    rw [few_eq hdl, ← egs]
    by_cases hg : gs = []
    · rw [if_pos hg, if_pos hg]; rfl
    · rw [if_neg hg, if_neg hg]; rfl
  · refine ev_call (F := FLeastQ) (ea_cons (ev_var rfl) (ea_cons (ev_var rfl) (ea_cons (ev_var rfl) (ea_cons (ev_var rfl) ea_nil)))) ⟨L, W, dr, ls, _, _, _, _, rfl, hTold (.inr rfl) (.inl rfl) (.inl rfl), ?_⟩
    rcases hths x hx with ⟨t, rfl, ht⟩ | ⟨d, rfl, hd1, hd2⟩
    · refine .inl ⟨t, rfl, by omega, fun q1 q2 => ?_, ?_⟩
      · intro z
        have z := (cost_nil (dr := dr)).mp z
        unfold drawB at q1
        rw [Bool.and_eq_true, decide_eq_true_iff, List.all_eq_true] at q1
        have : t ∈ goods L ls W := mem_goods.mpr ⟨q1.1, fun p hp => of_decide_eq_true (q1.2 p hp), keptB_iff.mp q2⟩
        rw [z] at this
        cases this
      · show D.bl _ = D.bl (thingB L W ls dr (nats t) t)
        rw [hthing]
        rfl
    · exact .inr ⟨hd1, hd2, rfl⟩
  dsimp only
  have a11 : At true (tups H) H [pg, u] (upd (upd (fun _ => none) u (urnO (rU4 us))) pg (.lst vg)) [some (.adr u), some (L.d), some (limsD ls), some (nats dr), some (nats ot), some (.lst (every.map nats)), some (L.d.lstd), some (.lst (gs.map nats)), some (.dct (movK dr gs)), some (fewD), some (toldD), some (canD), some (.lst (ths.map thD)), some (.adr pg), none, none, none, none, none, none, none, none] _ _ := a11'
  have hgu : pg ≠ u := fun z => hg2 (by rw [z]; exact hu)
  have rg1 : RL true (Gx [pg, u] (tups H) H (upd H10 pg (.lst vg))) vg [v0, v1, v2] := rg0.same (gx_own (a10.same' e10).gsub hg1)
  -- what is due: the fewest, what is one
  have hne0 : ∀ {b : Bool} {ps : Ds}, ps[7]? = some (some (.lst (gs.map nats))) → EtP b ps (tTest (tOp (rNeD K) (tVar 7) (tLst tNil))) (!gs.isEmpty) := fun h => EtP.is (et_test (ev_neNil (n := 1) (ev_var h) hshg)) (by rw [hemp])
  have hnE : (!gs.isEmpty) = true → gs ≠ [] := fun h z => by rw [z] at h; cases h
  have hE : (!gs.isEmpty) = false → gs = [] := fun h => by
    cases hq : gs with
    | nil => rfl
    | cons g r => rw [hq] at h; cases h
  refine tseq_ (a11.newLs (i := 14) (ds := [v0, v1]) (ea_cons (ev_if (hne0 rfl) (fun hc => EvP.is (ev_var rfl) (by rw [efew, ev0, if_neg (hnE hc), if_neg (hnE hc)])) fun hc => EvP.is (ev_var rfl) (by rw [ev0, if_pos (hE hc)])) (ea_cons (ev_lcA ths thD (fun x => [some (.adr u), some (L.d), some (limsD ls), some (nats dr), some (nats ot), some (.lst (every.map nats)), some (L.d.lstd), some (.lst (gs.map nats)), some (.dct (movK dr gs)), some (fewD), some (toldD), some (canD), some (.lst (ths.map thD)), some (.adr pg), none, none, none, none, some (thD x), none, none, none]) (fun x => .bl (oneB gs dr (fewZ L ls W dr) x)) ev1 (by omega) (iv_lst (ev_var rfl)) (fun x hx => gd_1) fun x hx => ?_) ea_nil)) (by simp) fun pd vd H11 e11 hd1 hd2 hd3 a12' rd0 => ?_)
  · rcases hths x hx with ⟨t, rfl, ht⟩ | ⟨d, rfl, ⟨m, hd1, hd2⟩, _⟩
    · refine EvP.is (ev_andV (c := true) (k := decide (t ∈ gs) && decide (((moveN dr t).length : Int) = fewZ L ls W dr)) (ev_isi (n := "tuple") (m := "tuple") (ea_cons (ev_var rfl) (ea_cons ev_cls ea_nil)) rfl (by decide +kernel)) fun _ => ev_andV (EvP.is (ev_din (k := castN t) (EvP.is (ev_var rfl) (show thD (.inl t) = keyD (castN t) from nats_key t)) (ev_var rfl) rfl) (by rw [valD_mov]; by_cases q : t ∈ gs <;> simp [q])) fun hc => ?_) rfl
      have hc : t ∈ gs := of_decide_eq_true hc
      have hne : gs ≠ [] := fun z => by rw [z] at hc; cases hc
      exact ev_eqI (EvP.is (ev_lenL (ea_cons (ev_dget (ks := movK dr gs) (k := castN t) (ev_var rfl) rfl (EvP.is (ev_var rfl) (show thD (.inl t) = keyD (castN t) from nats_key t)) (by rw [valD_mov, if_pos hc]; rfl)) ea_nil)) (by rw [List.length_map])) (EvP.is (ev_var rfl) (by rw [efew, if_neg hne]))
    · exact ev_andV (c := false) (k := false) (ev_isi (n := m) (m := "tuple") (ea_cons (ev_var rfl) (ea_cons ev_cls ea_nil)) hd1 hd2) fun z => nomatch z
  dsimp only
  have a12 : At true (tups H) H [pd, pg, u] (upd (upd (upd (fun _ => none) u (urnO (rU4 us))) pg (.lst vg)) pd (.lst vd)) [some (.adr u), some (L.d), some (limsD ls), some (nats dr), some (nats ot), some (.lst (every.map nats)), some (L.d.lstd), some (.lst (gs.map nats)), some (.dct (movK dr gs)), some (fewD), some (toldD), some (canD), some (.lst (ths.map thD)), some (.adr pg), some (.adr pd), none, none, none, none, none, none, none] _ _ := a12'
  have hdg : pd ≠ pg := fun z => hd2 (by rw [z]; simp)
  have hdu : pd ≠ u := fun z => hd2 (by rw [z]; simp)
  have up12 := gx_own (o := .lst vd) (a11.same' e11).gsub hd1
  have h12 : RS (tups H) H u pg pd [some (.adr u), some (L.d), some (limsD ls), some (nats dr), some (nats ot), some (.lst (every.map nats)), some (L.d.lstd), some (.lst (gs.map nats)), some (.dct (movK dr gs)), some (fewD), some (toldD), some (canD), some (.lst (ths.map thD)), some (.adr pg), some (.adr pd), none, none, none, none, none, none, none] (rU4 us) [v0, v1, v2] [v0, v1] _ _ _ vg vd := ⟨a12, by rw [upd_ne hdu.symm, upd_ne hgu.symm, upd_same], by rw [upd_ne hdg.symm, upd_same], upd_same, (rg1.same (a11.up (.of e11) (a11.own.same e11))).same up12, rd0.same up12, hgu, hdg, hdu⟩
  -- due: which must move
  have hnilSh : ∀ {α : Type} {xs : List α} {f : α → Int}, ∀ d ∈ xs.map (fun x => D.int (f x)), Sh 1 d := fun d hd => by
    obtain ⟨x, _, rfl⟩ := List.mem_map.mp hd
    exact .int _
  have hlSh : ∀ (xs : List (List Nat)), ∀ d ∈ xs.map natsL, Sh 1 d := fun xs d hd => by
    obtain ⟨x, _, rfl⟩ := List.mem_map.mp hd
    exact sh_natsL _
  have hgml : (gs.map (moveN dr)).length ≤ 100000 := by rw [List.length_map]; omega
  have hrng : ∀ {b : Bool} {ps : Ds}, ps[3]? = some (some (nats dr)) → IvP b ps (iRng1 (tCons (tCB (rLenQ K) (tCons (tVar 3) tNil)) tNil)) ((List.range W).map fun (i : Nat) => D.int (i : Int)) := fun h => IvP.is (iv_rng1 (n := W) (ea_cons (ev_lenT (ea_cons (ev_var h) ea_nil)) ea_nil) (by rw [List.length_map, hdl]; simp) (by rw [List.length_map, hdl]; omega)) (rng0 _)
  have hnatsL : ∀ t : List Nat, natsL t = .lst ((castN t).map .int) := fun t => by
    unfold natsL castN
    rw [List.map_map]
    rfl
  have hin : ∀ (k : Nat) (t : List Nat), decide ((k : Int) ∈ castN t) = decide (k ∈ t) := fun k t => mem_cast
  refine tseq_ (h12.due (i := 14) (d := v2) rfl (by simp) ?_ fun H12 C12 y12 h13 => ?_)
  · rw [ev2, must_eq hdr, ← egs]
    refine ev_tupL (ea_cons (ev_lc (List.range W) (fun (k : Nat) => .int (k : Int)) (fun (k : Nat) => [some (.adr u), some (L.d), some (limsD ls), some (nats dr), some (nats ot), some (.lst (every.map nats)), some (L.d.lstd), some (.lst (gs.map nats)), some (.dct (movK dr gs)), some (fewD), some (toldD), some (canD), some (.lst (ths.map thD)), some (.adr pg), some (.adr pd), none, none, none, none, none, some (.int (k : Int)), none]) (fun k => ((gs.map (moveN dr)).filter fun own => !decide (k ∈ own)).isEmpty) (fun (k : Nat) => .int (k : Int)) rfl (by simp; omega) (hrng rfl) (fun k hk => gd_1) (fun k hk => et_test (EvP.is (ev_eqNil (n := 1) (ds := ((gs.map (moveN dr)).filter fun own => !decide (k ∈ own)).map natsL) (ev_lockDN (j := 8) rfl (fun y hy => ?_) (ev_lc (gs.map (moveN dr)) natsL (fun own => [some (.adr u), some (L.d), some (limsD ls), some (nats dr), some (nats ot), some (.lst (every.map nats)), some (L.d.lstd), some (.lst (gs.map nats)), some (.lkd (movK dr gs)), some (fewD), some (toldD), some (canD), some (.lst (ths.map thD)), some (.adr pg), some (.adr pd), none, none, none, some (natsL own), none, some (.int (k : Int)), none]) (fun own => !decide (k ∈ own)) natsL rfl hgml (IvP.is (iv_vals (ev_var rfl)) hvals) (fun own _ => gd_1) (fun own _ => et_test (EvP.is (ev_notinL (ns := castN own) (ev_var rfl) (EvP.is (ev_var rfl) (hnatsL own))) (by rw [hin]))) fun own _ _ => ev_var rfl)) (hlSh _)) ?_)) fun k _ _ => ev_var rfl) ea_nil)
    · obtain ⟨own, ho, rfl⟩ := List.mem_map.mp hy
      have ho := (List.mem_filter.mp ho).1
      obtain ⟨g, hg, rfl⟩ := List.mem_map.mp ho
      exact ⟨1, nst_natsL (Nat.le_trans (List.length_filter_le _ _) (by rw [List.length_range]; omega))⟩
    · congr 1
      cases (gs.map (moveN dr)).filter fun own => !decide (k ∈ own) <;> rfl
  dsimp only
  -- lots
  obtain ⟨lots, elots⟩ : ∃ lots, lots = lotsN (rU4 us) W := ⟨_, rfl⟩
  have huA : u ∈ [pd, pg, u] := by simp
  have hlots : ∀ px ∈ lots, px.length ≤ 4 ∧ ∀ k ∈ px, k < W := fun px hp => by
    rw [elots] at hp
    unfold lotsN at hp
    rcases List.mem_append.mp hp with hp | hp
    · obtain ⟨i, _, rfl⟩ := List.mem_map.mp hp
      unfold lotN
      exact ⟨Nat.le_trans (List.length_filter_le _ _) (by rw [List.length_range]; exact hW4), fun k hk => List.mem_range.mp (List.mem_filter.mp hk).1⟩
    · rw [List.mem_singleton.mp hp]
      exact ⟨by simp, fun k hk => nomatch hk⟩
  have hlotl : lots.length = 5 := by
    rw [elots]
    unfold lotsN
    simp
  have hlotD : lots.map nats = ((List.range 4).map fun i => nats (lotN (lotU (rU4 us) W i) W)) ++ [.tup []] := by
    rw [elots]
    unfold lotsN
    rw [List.map_append, List.map_map]
    rfl
  refine tseq_ (h13.urn (i := 15) (d := .lst (lots.map nats)) (us' := rightU us) (fun C => ?_) fun v13 H13 C13 h14' => ?_)
  · rw [hlotD, eR, ← eW]
    have inner : ∀ i, i < 4 → EvX [pd, pg, u] (upd C u (urnO (lotU (rU4 us) W i))) true [some (.adr u), some (L.d), some (limsD ls), some (nats dr), some (nats ot), some (.lst (every.map nats)), some (L.d.lstd), some (.lst (gs.map nats)), some (.dct (movK dr gs)), some (fewD), some (toldD), some (canD), some (.lst (ths.map thD)), some (.adr pg), some (.adr pd), none, none, none, none, some (.int (i : Nat)), none, none] (tLc (iRng1 (tCons (tCB (rLenQ K) (tCons (tVar 3) tNil)) tNil)) (gName 20) (tTest (tOp rEq (tCallS (SpU FTake) (fun _ => E0) (tCons (tVar 0) (tCons (tC (.int 2)) tNil))) (tC (.int 0)))) (tVar 20) [20]) (.lst ((lotN (lotU (rU4 us) W i) W).map fun (k : Nat) => D.int (k : Int))) (upd C u (urnO (lotU (rU4 us) W (i + 1)))) := fun i hi => by
      have hz := evx_lc (A := [pd, pg, u]) (b := true) (ps := [some (.adr u), some (L.d), some (limsD ls), some (nats dr), some (nats ot), some (.lst (every.map nats)), some (L.d.lstd), some (.lst (gs.map nats)), some (.dct (movK dr gs)), some (fewD), some (toldD), some (canD), some (.lst (ths.map thD)), some (.adr pg), some (.adr pd), none, none, none, none, some (.int (i : Nat)), none, none]) (tt := tTest (tOp rEq (tCallS (SpU FTake) (fun _ => E0) (tCons (tVar 0) (tCons (tC (.int 2)) tNil))) (tC (.int 0)))) (g := gName 20) (vs := [20]) (te := tVar 20) (fun k => upd C u (urnO (iterS (lotU (rU4 us) W i) 2 k))) (fun k => upd C u (urnO (iterS (lotU (rU4 us) W i) 2 (k + 1)))) (fun k => [some (.adr u), some (L.d), some (limsD ls), some (nats dr), some (nats ot), some (.lst (every.map nats)), some (L.d.lstd), some (.lst (gs.map nats)), some (.dct (movK dr gs)), some (fewD), some (toldD), some (canD), some (.lst (ths.map thD)), some (.adr pg), some (.adr pd), none, none, none, none, some (.int (i : Nat)), some (.int (k : Nat)), none]) (fun k => decide (takeV (iterS (lotU (rU4 us) W i) 2 k) 2 = 0)) (fun k => .int (k : Nat)) (fun k => ((List.range k).filter fun j => decide (takeV (iterS (lotU (rU4 us) W i) 2 j) 2 = 0)).map fun (j : Nat) => D.int (j : Int))
        (hrng rfl) (fun k d hd => by obtain ⟨_, rfl⟩ := rng_items hd; exact gd_1) (fun k hk => etx_test (evx_eqI (evx_take (m := 2) huA rfl ev_int (by omega) (by omega) ((((o4.lots (W := W) i)).iter k).up (by
          rw [List.length_map, List.length_range] at hk
          have : (i : Int) * (W : Int) ≤ 4 * 4 := Int.mul_le_mul (by omega) (by omega) (by omega) (by omega)
          omega))) (EvP.x ev_int))) (fun k hk hb => ⟨(ev_var rfl).x, by rw [List.range_succ, List.filter_append, List.map_append, List.filter_cons, if_pos hb]; rfl⟩) (fun k hk hb => ⟨rfl, by rw [List.range_succ, List.filter_append, List.map_append, List.filter_cons, if_neg (by rw [hb]; decide)]; simp⟩) rfl (by simp; omega)
      rw [List.length_map, List.length_range] at hz
      exact hz
    have outer := evx_lc (A := [pd, pg, u]) (b := true) (ps := [some (.adr u), some (L.d), some (limsD ls), some (nats dr), some (nats ot), some (.lst (every.map nats)), some (L.d.lstd), some (.lst (gs.map nats)), some (.dct (movK dr gs)), some (fewD), some (toldD), some (canD), some (.lst (ths.map thD)), some (.adr pg), some (.adr pd), none, none, none, none, none, none, none]) (tt := tYes) (g := gName 19) (vs := [19]) (te := tCB (rTupQ K) (tCons (tLc (iRng1 (tCons (tCB (rLenQ K) (tCons (tVar 3) tNil)) tNil)) (gName 20) (tTest (tOp rEq (tCallS (SpU FTake) (fun _ => E0) (tCons (tVar 0) (tCons (tC (.int 2)) tNil))) (tC (.int 0)))) (tVar 20) [20]) tNil)) (items := (List.range 4).map fun (i : Nat) => D.int (i : Int)) (wi := iRng1 (tCons (tC (.int 4)) tNil)) (fun i => upd C u (urnO (lotU (rU4 us) W i))) (fun i => upd C u (urnO (lotU (rU4 us) W i))) (fun i => [some (.adr u), some (L.d), some (limsD ls), some (nats dr), some (nats ot), some (.lst (every.map nats)), some (L.d.lstd), some (.lst (gs.map nats)), some (.dct (movK dr gs)), some (fewD), some (toldD), some (canD), some (.lst (ths.map thD)), some (.adr pg), some (.adr pd), none, none, none, none, some (.int (i : Nat)), none, none]) (fun _ => true) (fun i => nats (lotN (lotU (rU4 us) W i) W)) (fun i => (List.range i).map fun j => nats (lotN (lotU (rU4 us) W j) W))
      (IvP.is (iv_rng1 (n := 4) (ea_cons ev_int ea_nil) rfl) (rng0 _)) (fun i d hd => by obtain ⟨_, rfl⟩ := rng_items hd; exact gd_1) (fun i hi => EtP.x et_yes) (fun i hi _ => ⟨evx_tupL (eax_cons (inner i (by rw [List.length_map, List.length_range] at hi; exact hi)) eax_nil), by rw [List.range_succ, List.map_append]; rfl⟩) (fun i hi z => nomatch z) rfl (by simp)
    rw [List.length_map, List.length_range] at outer
    exact evx_catL outer (ev_lst (ea_cons (ev_tup ea_nil (by simp)) ea_nil) (by simp)).x (by simp)
  dsimp only
  have h14 : RS (tups H) H u pg pd [some (.adr u), some (L.d), some (limsD ls), some (nats dr), some (nats ot), some (.lst (every.map nats)), some (L.d.lstd), some (.lst (gs.map nats)), some (.dct (movK dr gs)), some (fewD), some (toldD), some (canD), some (.lst (ths.map thD)), some (.adr pg), some (.adr pd), some (.lst (lots.map nats)), none, none, none, none, none, none] (rightU us) [v0, v1, v2] [v0, v1, v2] _ H13 C13 vg y12 := h14'
  -- got: which can stay
  obtain ⟨v3, ev3⟩ : ∃ d : D, d = .lst (lots.map fun px => .bl (canB L ls W dr px)) := ⟨_, rfl⟩
  refine tseq_ (h14.got (i := 13) (d := v3) rfl (by simp) (ev_lcA lots nats (fun px => [some (.adr u), some (L.d), some (limsD ls), some (nats dr), some (nats ot), some (.lst (every.map nats)), some (L.d.lstd), some (.lst (gs.map nats)), some (.dct (movK dr gs)), some (fewD), some (toldD), some (canD), some (.lst (ths.map thD)), some (.adr pg), some (.adr pd), some (.lst (lots.map nats)), none, none, some (nats px), none, none, none]) (fun px => .bl (canB L ls W dr px)) ev3 (by omega) (iv_lst (ev_var rfl)) (fun px _ => gd_1) fun px hp => ev_call (F := FCan) (ea_cons (ev_var rfl) (ea_cons (ev_var rfl) (ea_cons (ev_var rfl) (ea_cons (ev_var rfl) ea_nil)))) ⟨L, W, dr, ls, _, _, _, px, rfl, hTold (.inr rfl) (.inl rfl) (.inl rfl), by omega, by have := (hlots px hp).1; omega, rfl⟩) fun H14 C14 x14 h15 => ?_)
  dsimp only
  -- due: the same
  refine tseq_ (h15.due (i := 14) (d := v3) rfl (by simp) (ev_lcA lots nats (fun px => [some (.adr u), some (L.d), some (limsD ls), some (nats dr), some (nats ot), some (.lst (every.map nats)), some (L.d.lstd), some (.lst (gs.map nats)), some (.dct (movK dr gs)), some (fewD), some (toldD), some (canD), some (.lst (ths.map thD)), some (.adr pg), some (.adr pd), some (.lst (lots.map nats)), none, none, some (nats px), none, none, none]) (fun px => .bl (canB L ls W dr px)) ev3 (by omega) (iv_lst (ev_var rfl)) (fun px _ => gd_1) fun px hp => EvP.is (ev_neNil (n := 1) (ds := ((gs.map (moveN dr)).filter fun far => (px.filter fun its => decide (its ∈ far)).isEmpty).map fun _ => D.int 1) (ev_lockD (j := 8) rfl (fun y hy => ?_) (ev_lc (gs.map (moveN dr)) natsL (fun far => [some (.adr u), some (L.d), some (limsD ls), some (nats dr), some (nats ot), some (.lst (every.map nats)), some (L.d.lstd), some (.lst (gs.map nats)), some (.lkd (movK dr gs)), some (fewD), some (toldD), some (canD), some (.lst (ths.map thD)), some (.adr pg), some (.adr pd), some (.lst (lots.map nats)), none, some (natsL far), some (nats px), none, none, none]) (fun far => (px.filter fun its => decide (its ∈ far)).isEmpty) (fun _ => .int 1) rfl hgml (IvP.is (iv_vals (ev_var rfl)) hvals) (fun far _ => gd_1) (fun far _ => et_test (EvP.is (ev_eqNil (n := 1) (ds := (px.filter fun its => decide (its ∈ far)).map fun (k : Nat) => D.int (k : Int)) (ev_lc px (fun (k : Nat) => .int (k : Int)) (fun (its : Nat) => [some (.adr u), some (L.d), some (limsD ls), some (nats dr), some (nats ot), some (.lst (every.map nats)), some (L.d.lstd), some (.lst (gs.map nats)), some (.lkd (movK dr gs)), some (fewD), some (toldD), some (canD), some (.lst (ths.map thD)), some (.adr pg), some (.adr pd), some (.lst (lots.map nats)), none, some (natsL far), some (nats px), none, none, some (.int (its : Int))]) (fun its => decide (its ∈ far)) (fun (k : Nat) => .int (k : Int)) rfl (by have := (hlots px hp).1; omega) (iv_tup (ev_var rfl)) (fun its _ => gd_1) (fun its _ => et_test (EvP.is (ev_inL (ns := castN far) (ev_var rfl) (EvP.is (ev_var rfl) (hnatsL far))) (by rw [hin]))) fun its _ _ => ev_var rfl) hnilSh) ?_)) fun far _ _ => ev_int)) hnilSh) ?_) fun H15 C15 y15 h16 => ?_)
  · obtain ⟨x, _, rfl⟩ := List.mem_map.mp hy
    exact .int _
  · congr 1
    cases px.filter fun its => decide (its ∈ far) <;> rfl
  · rw [can_eq hdr (hlots px hp).2, ← egs]
    congr 2
    cases (gs.map (moveN dr)).filter fun far => (px.filter fun its => decide (its ∈ far)).isEmpty <;> rfl
  dsimp only
  -- how many first ones stay
  obtain ⟨v4, ev4⟩ : ∃ d : D, d = if gs = [] then canD else .int (maxZ ((gs.map (moveN dr)).map (frstZ W))) := ⟨_, rfl⟩
  refine tseq_ (h16.got (i := 13) (d := v4) rfl (by simp) (EvP.is (ev_heard 2 (by decide) (hTold (.inl rfl) (.inl rfl) (.inl rfl)) (ea_cons ev_int (ea_cons (ev_var rfl) (ea_cons (ev_var rfl) (ea_cons (ev_var rfl) ea_nil))))) ?_) fun H16 C16 x16 h17 => ?_)
  · rw [ev4]
    have z := stay_eq (ls := ls) hdr
    rw [← egs] at z
    show optD ((stayO L ls W dr).map fun (n : Nat) => .int (n : Int)) = _
    have e : (stayO L ls W dr).map (fun (n : Nat) => D.int (n : Int)) = ((stayO L ls W dr).map (fun (n : Nat) => (n : Int))).map D.int := by rw [Option.map_map]; rfl
    rw [e, z]
    by_cases hg : gs = []
    · rw [if_pos hg, if_pos hg]; rfl
    · rw [if_neg hg, if_neg hg]; rfl
  dsimp only
  refine tseq_ (h17.due (i := 14) (d := v4) rfl (by simp) (ev_if (hne0 rfl) (fun hc => ?_) fun hc => EvP.is (ev_var rfl) (by rw [ev4, if_pos (hE hc)])) fun H17 C17 y17 h18 => ?_)
  · have hne := hnE hc
    rw [ev4, if_neg hne]
    refine ev_maxL (ns := (gs.map (moveN dr)).map (frstZ W)) (ea_cons (ev_lockD (j := 8) rfl (fun y hy => ?_) (ev_lcA (gs.map (moveN dr)) natsL (fun own => [some (.adr u), some (L.d), some (limsD ls), some (nats dr), some (nats ot), some (.lst (every.map nats)), some (L.d.lstd), some (.lst (gs.map nats)), some (.lkd (movK dr gs)), some (fewD), some (toldD), some (canD), some (.lst (ths.map thD)), some (.adr pg), some (.adr pd), some (.lst (lots.map nats)), none, none, some (natsL own), none, none, none]) (fun own => .int (frstZ W own)) (by rw [List.map_map]; rfl) hgml (IvP.is (iv_vals (ev_var rfl)) hvals) (fun own _ => gd_1) fun own ho => ?_)) ea_nil) (by simpa using hne)
    · obtain ⟨x, _, rfl⟩ := List.mem_map.mp hy
      exact .int _
    · have hol : own.length ≤ 4 := by
        obtain ⟨g, hg, rfl⟩ := List.mem_map.mp ho
        exact Nat.le_trans (List.length_filter_le _ _) (by rw [List.length_range]; omega)
      refine ev_minL (ns := (own ++ [W]).map fun (k : Nat) => (k : Int)) (ea_cons (EvP.is (ev_catL (ds := own.map fun (k : Nat) => D.int (k : Int)) (es := [.int (W : Int)]) (ev_var rfl) (ev_lst (ea_cons (EvP.is (ev_lenT (ea_cons (ev_var rfl) ea_nil)) (by rw [List.length_map, hdl])) ea_nil) (by simp)) (by rw [List.length_map]; simp; omega)) ?_) ea_nil) (by simp)
      rw [List.map_map, List.map_append]
      rfl
  dsimp only
  -- out
  refine tseq_ (h18.sd (sd_set (d := optI (lawOut L dr W ls)) (ev_call (F := FLOut) (ea_cons (ev_var rfl) (ea_cons (ev_var rfl) (ea_cons (ev_var rfl) ea_nil))) ⟨L, W, dr, ls, rfl, hN.hL, hN.hl, hdr, hB, rfl⟩)) fun σ18 H18 h19' => ?_)
  dsimp only
  have h19 : RS (tups H) H u pg pd [some (.adr u), some (L.d), some (limsD ls), some (nats dr), some (nats ot), some (.lst (every.map nats)), some (L.d.lstd), some (.lst (gs.map nats)), some (.dct (movK dr gs)), some (fewD), some (toldD), some (canD), some (.lst (ths.map thD)), some (.adr pg), some (.adr pd), some (.lst (lots.map nats)), some (optI (lawOut L dr W ls)), none, none, none, none, none] (rightU us) _ _ σ18 H18 C17 x16 y17 := h19'
  obtain ⟨v5, ev5⟩ : ∃ d : D, d = optD ((outO L dr W ls).map .int) := ⟨_, rfl⟩
  refine tseq_ (h19.got (i := 13) (d := v5) rfl (by simp) (EvP.is (ev_heard 3 (by decide) (hTold (.inl rfl) (.inr rfl) (.inl rfl)) (ea_cons ev_int (ea_cons (ev_var rfl) (ea_cons (hlistdr rfl) (ea_cons (ev_var rfl) ea_nil))))) ev5.symm) fun H19 C19 x19 h20 => ?_)
  dsimp only
  have hout := out_eq hN hdr
  refine tseq_ (h20.due (i := 14) (d := v5) rfl (by simp) (ev_if (et_test (ev_isN (ev_var rfl))) (fun hc => EvP.is (ev_var rfl) ?_) fun hc => EvP.is (ev_var rfl) ?_) fun H20 C20 y20 h21 => ?_)
  · rw [ev5, hout]
    cases hq : lawOut L dr W ls with
    | none => rfl
    | some o => rw [hq] at hc; cases hc
  · rw [ev5, hout]
    cases hq : lawOut L dr W ls with
    | none => rw [hq] at hc; cases hc
    | some o => rfl
  dsimp only
  -- the two lists, told
  have hpdA : pd ∉ [pg, u] := hd2
  obtain ⟨b1, ub1, cb1⟩ := h21.at_.rel hpdA hd3
  obtain ⟨b2, ub2, cb2⟩ := b1.rel hg2 hg3
  have hVg : R true (Gx [u] (tups H) H H20) (.ref pg) (.lst [v0, v1, v2, v3, v4, v5]) := .lst (cb2.trans h21.cg) ((h21.rg.same ub1).same ub2)
  have hVd : R true (Gx [u] (tups H) H H20) (.ref pd) (.lst [v0, v1, v2, v3, v4, v5]) := .lst (ub2 _ _ (cb1.trans h21.cd)) ((h21.rd.same ub1).same ub2)
  have b3' := (b2.recall (j := 13) rfl hVg).recall (j := 14) rfl hVd
  have b3 : At true (tups H) H [u] C20 [some (.adr u), some (L.d), some (limsD ls), some (nats dr), some (nats ot), some (.lst (every.map nats)), some (L.d.lstd), some (.lst (gs.map nats)), some (.dct (movK dr gs)), some (fewD), some (toldD), some (canD), some (.lst (ths.map thD)), some (.lst [v0, v1, v2, v3, v4, v5]), some (.lst [v0, v1, v2, v3, v4, v5]), some (.lst (lots.map nats)), some (optI (lawOut L dr W ls)), none, none, none, none, none] σ18 H20 := b3'
  have hcu := h21.cu
  have hsm : Sm 3 (.lst [v0, v1, v2, v3, v4, v5]) (.lst [v0, v1, v2, v3, v4, v5]) true := sm_lst (fun d hd => by
    rcases List.mem_cons.mp hd with rfl | hd
    · rw [ev0]
      split
      · exact sm_can
      · exact sm_int _
    · rcases List.mem_cons.mp hd with rfl | hd
      · rw [ev1]
        exact sm_bls (by omega)
      · rcases List.mem_cons.mp hd with rfl | hd
        · rw [ev2]
          exact sm_natsT (Nat.le_trans (List.length_filter_le _ _) (by rw [List.length_range]; omega))
        · rcases List.mem_cons.mp hd with rfl | hd
          · rw [ev3]
            exact sm_bls (by omega)
          · rcases List.mem_cons.mp hd with rfl | hd
            · rw [ev4]
              split
              · exact sm_can
              · exact sm_int _
            · rw [List.mem_singleton.mp hd, ev5]
              cases outO L dr W ls with
              | none => exact sm_can
              | some o => exact sm_int _) (by simp)
  refine tseq_ (b3.etP (c := false) (EtP.is (et_not (et_B (ev_call (F := FSame 3) (ea_cons (ev_var rfl) (ea_cons (ev_var rfl) ea_nil)) ⟨_, _, true, rfl, hsm, rfl⟩))) rfl) fun H21 e21 b4 => ?_)
  rw [if_neg (by decide)]
  dsimp only
  refine tseq_ (b4.etP (c := gs.isEmpty) (EtP.is (et_test (ev_eqNil (n := 1) (ev_var rfl) hshg)) hemp) fun H22 e22 b5 => ?_)
  by_cases hg : gs = []
  · rw [if_pos (by rw [hg]; rfl)]
    unfold tRet tC
    dsimp only
    exact fin _ _ b5.same (by rw [b5.own.at hu]; exact hcu) (.bl true)
  rw [if_neg (by rw [List.isEmpty_iff]; exact hg)]
  dsimp only
  -- the other drawing
  have hgg : goods L ls W ≠ [] := by rw [← egs]; exact hg
  have hTot : Told L W ot ls L.d (nats ot) (limsD ls) := told_of hN.hL hN.hl hot h4 (.inl rfl) (.inl rfl) (.inl rfl)
  refine tseq_ (b5.sd (W := fun _ _ => False) (sd_set (d := .int (fewZ L ls W ot)) (ev_callE (F := FFew) (ea_cons (ev_var rfl) (ea_cons (ev_var rfl) (ea_cons (ev_var rfl) ea_nil))) ⟨L, W, ot, ls, _, _, _, rfl, hTot, by rw [few_eq hol, if_neg hgg]; rfl⟩)) fun σ23 H23 e23 b6' => ?_)
  dsimp only
  have b6 : At true (tups H) H [u] C20 [some (.adr u), some (L.d), some (limsD ls), some (nats dr), some (nats ot), some (.lst (every.map nats)), some (L.d.lstd), some (.lst (gs.map nats)), some (.dct (movK dr gs)), some (fewD), some (toldD), some (canD), some (.lst (ths.map thD)), some (.lst [v0, v1, v2, v3, v4, v5]), some (.lst [v0, v1, v2, v3, v4, v5]), some (.lst (lots.map nats)), some (optI (lawOut L dr W ls)), some (.int (fewZ L ls W ot)), none, none, none, none] σ23 H23 := b6'
  obtain ⟨o, ho, hof⟩ := out_few hN hdr hgg
  have hlo : lawOut L dr W ls = some o := by rw [← hout, ho]
  have hzero := few_zero hdl hgg
  rw [← egs] at hzero
  have htri := few_tri (dr := dr) (ot := ot) hdl hol hgg
  have hfv : ∀ {b : Bool} {ps : Ds}, ps[9]? = some (some fewD) → EvP b ps (tVar 9) (.int (fewZ L ls W dr)) := fun h => EvP.is (ev_var h) (by rw [efew, if_neg hg])
  have hov : ∀ {b : Bool} {ps : Ds}, ps[16]? = some (some (optI (lawOut L dr W ls))) → EvP b ps (tVar 16) (.int o) := fun h => EvP.is (ev_var h) (by rw [hlo]; rfl)
  refine b6.evP (d := .bl true) (EvP.is (ev_andV (c := true) (k := true) (EvP.is (ev_eqB (ev_eqI (hfv rfl) ev_int) (ev_inNats (ev_var rfl) (ev_var rfl))) ?_) fun _ => EvP.is (ev_andV (c := true) (k := true) (EvP.is (ev_notN (hov rfl)) rfl) fun _ => EvP.is (ev_andV (c := true) (k := true) (EvP.is (ev_ge (hfv rfl) (hov rfl)) ?_) fun _ => EvP.is (ev_le (hfv rfl) (ev_add (ev_lenT (ea_cons (ev_call (F := FMoved) (ea_cons (ev_var rfl) (ea_cons (ev_var rfl) (ea_cons (ev_var rfl) ea_nil))) ⟨_, dr, ot, rfl, by omega, by omega, rfl⟩) ea_nil)) (ev_var rfl))) ?_) rfl) rfl) rfl) fun v24 H24 e24 b7 r24 => fin _ _ b7.same (by rw [b7.own.at hu]; exact hcu) (b7.immV r24 (.bl true))
  · rw [hzero, decide_eq_true rfl]
  · rw [decide_eq_true hof]
  · rw [decide_eq_true (by rw [List.length_map]; exact htri)]
end
end SP
set_option Elab.async false
set_option linter.all false
set_option maxRecDepth 100000
set_option maxHeartbeats 4000000
/-! Stillpanes: _law_by_hand_right. -/
namespace SP
open PySem L2 PySem.Spec PyProof.Rows
def thirdsL : Lay := ⟨3, [[0, 1, 2, 3], [0, 1, 2, 3], [0, 1, 2, 3]]⟩
def loneM : List (List Nat × Int) := [([0], 2), ([1], 2), ([2], 2)]
def bothM : List (List Nat × Int) := [([0], 2), ([0, 1], 1), ([1], 2), ([2], 2)]
def twoM : List (List Nat × Int) := [([0], 1), ([1], 1)]
def zeroM : List (List Nat × Int) := [([0], 0)]
theorem thirds_ok : thirdsL.Ok 3 := ⟨by decide, by decide, by decide, by decide, by decide, by decide⟩
theorem lone_ok : LimsOk thirdsL loneM := ⟨by decide, by decide, by decide⟩
theorem both_ok : LimsOk thirdsL bothM := ⟨by decide, by decide, by decide⟩
theorem two_ok : LimsOk thirdsL twoM := ⟨by decide, by decide, by decide⟩
theorem zero_ok : LimsOk thirdsL zeroM := ⟨by decide, by decide, by decide⟩
theorem thirds_told {ls : List (List Nat × Int)} {dr : List Nat} (hl : LimsOk thirdsL ls) (h1 : dr.length = 3) (h2 : ∀ p ∈ dr, p < 3) : Told thirdsL 3 dr ls thirdsL.d (nats dr) (limsD ls) :=
  told_of thirds_ok hl ⟨h1, h2⟩ (st_few (by decide) (by decide)) (.inl rfl) (.inl rfl) (.inl rfl)
def got1 : List D := [.int 1, nats [0, 2, 1], .int 1, nats [1, 2], .bl false, .int 1]
def got2 : List D := got1 ++ [.lst [.bl true, .bl true, .bl false], canD]
def got3 : List D := got2 ++ [.int 1, canD, nats [0, 1, 2]]
theorem bh_few : (fewO thirdsL loneM [0, 0, 1] 3).map D.int = some (.int 1) := by
  have : fewO thirdsL loneM [0, 0, 1] 3 = some 1 := by decide +kernel
  rw [this]; rfl
theorem bh_least : (leastO thirdsL bothM [0, 1, 2] 3).map nats = some (nats [0, 2, 1]) := by
  have : leastO thirdsL bothM [0, 1, 2] 3 = some [0, 2, 1] := by decide +kernel
  rw [this]; rfl
theorem bh_out : (outO thirdsL [0, 0, 1] 3 loneM).map D.int = some (.int 1) := by
  have : outO thirdsL [0, 0, 1] 3 loneM = some 1 := by decide +kernel
  rw [this]; rfl
theorem bh_must : mustN thirdsL bothM 3 [0, 1, 2] = [1, 2] := by decide +kernel
theorem bh_can : canB thirdsL loneM 3 [0, 0, 1] [0, 1] = false := by decide +kernel
theorem bh_stay : (stayO thirdsL loneM 3 [0, 0, 1]).map (fun (n : Nat) => D.int (n : Int)) = some (.int 1) := by
  have : stayO thirdsL loneM 3 [0, 0, 1] = some 1 := by decide +kernel
  rw [this]; rfl
theorem bh_one1 : thingB thirdsL 3 loneM [0, 0, 1] (nats [0, 2, 1]) [0, 2, 1] = true := by
  show (drawB thirdsL 3 [0, 2, 1] && _) = true
  decide +kernel
theorem bh_one2 : thingB thirdsL 3 loneM [0, 0, 1] (nats [2, 0, 1]) [2, 0, 1] = true := by
  show (drawB thirdsL 3 [2, 0, 1] && _) = true
  decide +kernel
theorem bh_one3 : thingB thirdsL 3 loneM [0, 0, 1] (nats [1, 0, 2]) [1, 0, 2] = false := by
  show (drawB thirdsL 3 [1, 0, 2] && _) = false
  decide +kernel
theorem bh_cost : costAt thirdsL loneM [0, 0, 1] 3 ≠ [] := by decide +kernel
theorem bh_zero : fewO thirdsL zeroM [0, 1, 2] 3 = none := by decide +kernel
theorem bh_two3 : outO thirdsL [0, 1, 2] 3 twoM = some 1 := by decide +kernel
theorem bh_two0 : fewO thirdsL twoM [0, 1, 2] 3 = none := by decide +kernel
theorem bh_twoM : mustN thirdsL twoM 3 [2, 0, 1] = [0, 1, 2] := by decide +kernel
def FHand (ds : List D) (d : D) : Prop := ds = [] ∧ d = .bl true
section
variable {P : Program} {w : World} {K : PySem.W.Frag} {mg : Str → Option Value} {base : Heap}
/-- a written tuple of three numbers -/
theorem ev_t3 {b : Bool} {ps : Ds} {i j k : Nat} : EvP b ps (tTup (tCons (tC (.int (i : Int))) (tCons (tC (.int (j : Int))) (tCons (tC (.int (k : Int))) tNil)))) (nats [i, j, k]) := ev_tup (ea_cons ev_int (ea_cons ev_int (ea_cons ev_int ea_nil))) (by simp)
theorem ev_l1 {b : Bool} {ps : Ds} {i : Nat} {o : Int} : EvP b ps (tTup (tCons (tTup (tCons (tC (.int (i : Int))) tNil)) (tCons (tC (.int o)) tNil))) (limD ([i], o)) := ev_tup (ea_cons (ev_tup (ea_cons ev_int ea_nil) (by simp)) (ea_cons ev_int ea_nil)) (by simp)
theorem ev_l2 {b : Bool} {ps : Ds} {i j : Nat} {o : Int} : EvP b ps (tTup (tCons (tTup (tCons (tC (.int (i : Int))) (tCons (tC (.int (j : Int))) tNil))) (tCons (tC (.int o)) tNil))) (limD ([i, j], o)) := ev_tup (ea_cons (ev_tup (ea_cons ev_int (ea_cons ev_int ea_nil)) (by simp)) (ea_cons ev_int ea_nil)) (by simp)
theorem sc_law_by_hand_right : FnScope ["_law_thirds", "_law_lone", "_law_both", "_law_got", "_law_two", "_law_own"] [] (defScope (top 48)) := ⟨rfl, rfl, rfl, by decide +kernel, rfl, by decide +kernel, by decide +kernel⟩
theorem ok_law_by_hand_right (T : Txt mg) {C : Addr} (XC : XCan K mg C) (h_fewest_moved : Has P w K mg base "fewest_moved" ["layout", "drawing", "limits"] 5 (SpE C FFew)) (h_least_moved : Has P w K mg base "least_moved" ["layout", "drawing", "limits"] 5 (SpE C FLeast)) (h_out_by : Has P w K mg base "out_by" ["layout", "drawing", "limits"] 5 (SpE C FOutBy)) (h_must_move : Has P w K mg base "must_move" ["layout", "drawing", "limits"] 5 (SpR FMust))
    (h_can_stay : Has P w K mg base "can_stay" ["layout", "drawing", "limits", "pixels"] 5 (SpR FCan)) (h_stays_to : Has P w K mg base "stays_to" ["layout", "drawing", "limits"] 5 (SpE C FStays)) (h_is_least_moved : Has P w K mg base "is_least_moved" ["layout", "drawing", "limits", "thing"] 5 (SpR FLeastQ)) (h_law_heard : Has P w K mg base "_law_heard" ["_law_door", "_law_layout", "_law_drawing", "_law_limits"] 6 (SpR FHeard)) (h_law_same : Has P w K mg base "_law_same" ["_law_got", "_law_due"] 4 (SpR (FSame 3)))
    {f : Addr} {fd : FuncData} (Fn : Fun K "_law_by_hand_right" "_law_by_hand_right" (top 48) f fd) : FnOk P w K mg base (L2.CX P w) 7 f fd [] (SpR FHand) := by
  refine ok_new (k := 6) Fn sc_law_by_hand_right (fun ds d ⟨e, _⟩ => by subst e; exact ⟨rfl, fun x hx => nomatch hx⟩) fun cdv A outer s H E ds d hr ⟨e, ed⟩ => ?_
  subst e ed
  have hr_fewest_moved := hr.mono (by decide : 5 ≤ 6)
  have hr_least_moved := hr.mono (by decide : 5 ≤ 6)
  have hr_out_by := hr.mono (by decide : 5 ≤ 6)
  have hr_must_move := hr.mono (by decide : 5 ≤ 6)
  have hr_can_stay := hr.mono (by decide : 5 ≤ 6)
  have hr_stays_to := hr.mono (by decide : 5 ≤ 6)
  have hr_is_least_moved := hr.mono (by decide : 5 ≤ 6)
  have hr_law_heard := hr
  have hr_law_same := hr.mono (by decide : 4 ≤ 6)
  refine ⟨_, (pss_cons (ps_asg (pe_tup (pa_cons (pe_tup (pa_cons pe_int (pa_cons (pe_op (repT_ K) (pe_tup (pa_cons (pe_tup (pa_cons pe_int (pa_cons pe_int (pa_cons pe_int (pa_cons pe_int pa_nil))))) pa_nil)) pe_int) pa_nil))) (pa_cons (pe_tup (pa_cons (pe_tup (pa_cons (pe_tup (pa_cons pe_int pa_nil)) (pa_cons pe_int pa_nil))) (pa_cons (pe_tup (pa_cons (pe_tup (pa_cons pe_int pa_nil)) (pa_cons pe_int pa_nil))) (pa_cons (pe_tup (pa_cons (pe_tup (pa_cons pe_int pa_nil)) (pa_cons pe_int pa_nil))) pa_nil)))) pa_nil))) (gT_ K (n := 2) rfl (pgs_cons (pg_name (i := 0) sc_law_by_hand_right.nd rfl (Or.inr rfl)) (pgs_cons (pg_name (i := 1) sc_law_by_hand_right.nd rfl (Or.inr rfl)) pgs_nil))))
      (pss_cons (ps_set (i := 2) sc_law_by_hand_right.nd rfl (Or.inl rfl) (pe_tup (pa_cons (pe_tup (pa_cons (pe_tup (pa_cons pe_int pa_nil)) (pa_cons pe_int pa_nil))) (pa_cons (pe_tup (pa_cons (pe_tup (pa_cons pe_int (pa_cons pe_int pa_nil))) (pa_cons pe_int pa_nil))) (pa_cons (pe_tup (pa_cons (pe_tup (pa_cons pe_int pa_nil)) (pa_cons pe_int pa_nil))) (pa_cons (pe_tup (pa_cons (pe_tup (pa_cons pe_int pa_nil)) (pa_cons pe_int pa_nil))) pa_nil))))))
      (pss_cons (ps_set (i := 3) sc_law_by_hand_right.nd rfl (Or.inl rfl) (pe_lst (pa_cons (pe_has h_fewest_moved hr_fewest_moved (by rfl) (pa_cons (pv 0) (pa_cons (pe_tup (pa_cons pe_int (pa_cons pe_int (pa_cons pe_int pa_nil)))) (pa_cons (pv 1) pa_nil))) pass0) (pa_cons (pe_has h_least_moved hr_least_moved (by rfl) (pa_cons (pv 0) (pa_cons (pe_tup (pa_cons pe_int (pa_cons pe_int (pa_cons pe_int pa_nil)))) (pa_cons (pv 2) pa_nil))) pass0) (pa_cons (pe_has h_out_by hr_out_by (by rfl) (pa_cons (pv 0) (pa_cons (pe_tup (pa_cons pe_int (pa_cons pe_int (pa_cons pe_int pa_nil)))) (pa_cons (pv 1) pa_nil))) pass0) (pa_cons (pe_has h_must_move hr_must_move (by rfl) (pa_cons (pv 0) (pa_cons (pe_tup (pa_cons pe_int (pa_cons pe_int (pa_cons pe_int pa_nil)))) (pa_cons (pv 2) pa_nil))) pass0) (pa_cons (pe_has h_can_stay hr_can_stay (by rfl) (pa_cons (pv 0) (pa_cons (pe_tup (pa_cons pe_int (pa_cons pe_int (pa_cons pe_int pa_nil)))) (pa_cons (pv 1) (pa_cons (pe_tup (pa_cons pe_int (pa_cons pe_int pa_nil))) pa_nil)))) pass0) (pa_cons (pe_has h_stays_to hr_stays_to (by rfl) (pa_cons (pv 0) (pa_cons (pe_tup (pa_cons pe_int (pa_cons pe_int (pa_cons pe_int pa_nil)))) (pa_cons (pv 1) pa_nil))) pass0) pa_nil))))))))
      (pss_cons (ps_set (i := 3) sc_law_by_hand_right.nd rfl (Or.inl rfl) (pe_op op_cat (pv 3) (pe_lst (pa_cons (pe_lc (own := [("_law_own", 5)]) rfl sc_law_by_hand_right.nd (iT_ K (pe_tup (pa_cons (pe_tup (pa_cons pe_int (pa_cons pe_int (pa_cons pe_int pa_nil)))) (pa_cons (pe_tup (pa_cons pe_int (pa_cons pe_int (pa_cons pe_int pa_nil)))) (pa_cons (pe_tup (pa_cons pe_int (pa_cons pe_int (pa_cons pe_int pa_nil)))) pa_nil))))) (blkOk_by (by rfl)) (fun _ _ _ _ _ => (pg_name (i := 5) sc_law_by_hand_right.nd rfl (Or.inl rfl))) (fun _ _ _ _ _ => pts_nil) (fun _ _ _ _ _ => (pe_has h_is_least_moved hr_is_least_moved (by rfl) (pa_cons (pv 0) (pa_cons (pe_tup (pa_cons pe_int (pa_cons pe_int (pa_cons pe_int pa_nil)))) (pa_cons (pv 1) (pa_cons (pv 5) pa_nil)))) pass0))) (pa_cons (pe_has h_law_heard hr_law_heard (by rfl) (pa_cons pe_int (pa_cons (pv 0) (pa_cons (pe_tup (pa_cons pe_int (pa_cons pe_int (pa_cons pe_int pa_nil)))) (pa_cons (pe_tup (pa_cons (pe_tup (pa_cons (pe_tup (pa_cons pe_int pa_nil)) (pa_cons pe_int pa_nil))) pa_nil)) pa_nil)))) pass0) pa_nil)))))
      (pss_cons (ps_set (i := 4) sc_law_by_hand_right.nd rfl (Or.inl rfl) (pe_tup (pa_cons (pe_tup (pa_cons (pe_tup (pa_cons pe_int pa_nil)) (pa_cons pe_int pa_nil))) (pa_cons (pe_tup (pa_cons (pe_tup (pa_cons pe_int pa_nil)) (pa_cons pe_int pa_nil))) pa_nil))))
      (pss_cons (ps_set (i := 3) sc_law_by_hand_right.nd rfl (Or.inl rfl) (pe_op op_cat (pv 3) (pe_lst (pa_cons (pe_has h_law_heard hr_law_heard (by rfl) (pa_cons pe_int (pa_cons (pv 0) (pa_cons (pe_tup (pa_cons pe_int (pa_cons pe_int (pa_cons pe_int pa_nil)))) (pa_cons (pv 4) pa_nil)))) pass0) (pa_cons (pe_has h_law_heard hr_law_heard (by rfl) (pa_cons pe_int (pa_cons (pv 0) (pa_cons (pe_tup (pa_cons pe_int (pa_cons pe_int (pa_cons pe_int pa_nil)))) (pa_cons (pv 4) pa_nil)))) pass0) (pa_cons (pe_has h_must_move hr_must_move (by rfl) (pa_cons (pv 0) (pa_cons (pe_tup (pa_cons pe_int (pa_cons pe_int (pa_cons pe_int pa_nil)))) (pa_cons (pv 4) pa_nil))) pass0) pa_nil))))))
      (pss_one (ps_ret (pe_has h_law_same hr_law_same (by rfl) (pa_cons (pv 3) (pa_cons (pe_lst (pa_cons pe_int (pa_cons (pe_tup (pa_cons pe_int (pa_cons pe_int (pa_cons pe_int pa_nil)))) (pa_cons pe_int (pa_cons (pe_tup (pa_cons pe_int (pa_cons pe_int pa_nil))) (pa_cons pe_bl (pa_cons pe_int (pa_cons (pe_lst (pa_cons pe_bl (pa_cons pe_bl (pa_cons pe_bl pa_nil)))) (pa_cons (pe_lst (pa_cons pe_str (pa_cons pe_bl pa_nil))) (pa_cons pe_int (pa_cons (pe_lst (pa_cons pe_str (pa_cons pe_bl pa_nil))) (pa_cons (pe_tup (pa_cons pe_int (pa_cons pe_int (pa_cons pe_int pa_nil)))) pa_nil)))))))))))) pa_nil)) pass0))))))))), ?_⟩
  have t001 : ∀ {ls : List (List Nat × Int)}, LimsOk thirdsL ls → Told thirdsL 3 [0, 0, 1] ls thirdsL.d (nats [0, 0, 1]) (limsD ls) := fun h => thirds_told h rfl (by decide)
  have t012 : ∀ {ls : List (List Nat × Int)}, LimsOk thirdsL ls → Told thirdsL 3 [0, 1, 2] ls thirdsL.d (nats [0, 1, 2]) (limsD ls) := fun h => thirds_told h rfl (by decide)
  have t201 : ∀ {ls : List (List Nat × Int)}, LimsOk thirdsL ls → Told thirdsL 3 [2, 0, 1] ls thirdsL.d (nats [2, 0, 1]) (limsD ls) := fun h => thirds_told h rfl (by decide)
  refine sd_seq (qs := [some (thirdsL.d), some (limsD loneM), none, none, none, none]) (sd_asg (vs := [0, 1]) (ev_tup (ds := [thirdsL.d, limsD loneM]) (ea_cons (EvP.is (ev_tup (ea_cons ev_int (ea_cons (ev_repT (ev_tup (ea_cons (ev_tup (ea_cons ev_int (ea_cons ev_int (ea_cons ev_int (ea_cons ev_int ea_nil)))) (by simp)) ea_nil) (by simp)) ev_int (by simp) (by omega) (by omega) (by simp)) ea_nil)) (by simp)) rfl) (ea_cons (ev_tup (ea_cons ev_l1 (ea_cons ev_l1 (ea_cons ev_l1 ea_nil))) (by simp [loneM])) ea_nil)) (by simp)) (gd_tup (gs_cons gd_name (gs_cons gd_name gs_nil)) rfl)) ?_
  refine sd_seq (qs := [some (thirdsL.d), some (limsD loneM), some (limsD bothM), none, none, none]) (sd_set (ev_tup (ea_cons ev_l1 (ea_cons ev_l2 (ea_cons ev_l1 (ea_cons ev_l1 ea_nil)))) (by simp [bothM]))) ?_
  refine sd_seq (qs := [some (thirdsL.d), some (limsD loneM), some (limsD bothM), some (.lst got1), none, none]) (sd_set (ev_lst (ds := got1) (ea_cons (ev_callE (F := FFew) (ea_cons (ev_var rfl) (ea_cons ev_t3 (ea_cons (ev_var rfl) ea_nil))) ⟨_, 3, _, _, _, _, _, rfl, t001 lone_ok, bh_few.symm⟩) (ea_cons (ev_callE (F := FLeast) (ea_cons (ev_var rfl) (ea_cons ev_t3 (ea_cons (ev_var rfl) ea_nil))) ⟨_, 3, _, _, _, _, _, rfl, t012 both_ok, bh_least.symm⟩)
    (ea_cons (ev_callE (F := FOutBy) (ea_cons (ev_var rfl) (ea_cons ev_t3 (ea_cons (ev_var rfl) ea_nil))) ⟨_, 3, _, _, _, _, _, rfl, t001 lone_ok, bh_out.symm⟩) (ea_cons (ev_call (F := FMust) (ea_cons (ev_var rfl) (ea_cons ev_t3 (ea_cons (ev_var rfl) ea_nil))) ⟨_, 3, _, _, _, _, _, rfl, t012 both_ok, by rw [bh_must]⟩)
    (ea_cons (ev_call (F := FCan) (ea_cons (ev_var rfl) (ea_cons ev_t3 (ea_cons (ev_var rfl) (ea_cons (ev_tup (ds := [.int ((0 : Nat) : Int), .int ((1 : Nat) : Int)]) (ea_cons ev_int (ea_cons ev_int ea_nil)) (by simp)) ea_nil)))) ⟨_, 3, _, _, _, _, _, [0, 1], rfl, t001 lone_ok, by decide, by decide, by rw [bh_can]⟩) (ea_cons (ev_callE (F := FStays) (ea_cons (ev_var rfl) (ea_cons ev_t3 (ea_cons (ev_var rfl) ea_nil))) ⟨_, 3, _, _, _, _, _, rfl, t001 lone_ok, bh_stay.symm⟩) ea_nil)))))) (by simp [got1]))) ?_
  refine sd_seq (qs := [some (thirdsL.d), some (limsD loneM), some (limsD bothM), some (.lst got2), none, none]) (sd_set (ev_catL (ds := got1) (ev_var rfl) (ev_lst (ea_cons (ev_lcA [[0, 2, 1], [2, 0, 1], [1, 0, 2]] nats (fun t => [some (thirdsL.d), some (limsD loneM), some (limsD bothM), some (.lst got1), none, some (nats t)]) (fun t => .bl (thingB thirdsL 3 loneM [0, 0, 1] (nats t) t)) (r := .lst [.bl true, .bl true, .bl false]) ?_ (by simp) (iv_tup (ev_tup (ea_cons ev_t3 (ea_cons ev_t3 (ea_cons ev_t3 ea_nil))) (by simp))) (fun t _ => gd_1) fun t ht => ?_) (ea_cons (EvP.is (ev_heard 0 (by decide) (t012 zero_ok) (ea_cons ev_int (ea_cons (ev_var rfl) (ea_cons ev_t3 (ea_cons (ev_tup (ea_cons ev_l1 ea_nil) (by simp [zeroM])) ea_nil))))) ?_) ea_nil)) (by simp)) (by simp [got1]))) ?_
  · rw [List.map_cons, List.map_cons, List.map_cons, List.map_nil, bh_one1, bh_one2, bh_one3]
  · refine ev_call (F := FLeastQ) (ea_cons (ev_var rfl) (ea_cons ev_t3 (ea_cons (ev_var rfl) (ea_cons (ev_var rfl) ea_nil)))) ⟨_, 3, _, _, _, _, _, _, rfl, t001 lone_ok, .inl ⟨t, rfl, ?_, fun _ _ => bh_cost, rfl⟩⟩
    rcases List.mem_cons.mp ht with rfl | ht
    · decide
    · rcases List.mem_cons.mp ht with rfl | ht
      · decide
      · rw [List.mem_singleton.mp ht]; decide
  · unfold heardO
    rw [bh_zero]
    rfl
  refine sd_seq (qs := [some (thirdsL.d), some (limsD loneM), some (limsD bothM), some (.lst got2), some (limsD twoM), none]) (sd_set (ev_tup (ea_cons ev_l1 (ea_cons ev_l1 ea_nil)) (by simp [twoM]))) ?_
  refine sd_seq (sd_set (d := .lst got3) (ev_catL (ds := got2) (ev_var rfl) (ev_lst (ea_cons (EvP.is (ev_heard 3 (by decide) (t012 two_ok) (ea_cons ev_int (ea_cons (ev_var rfl) (ea_cons ev_t3 (ea_cons (ev_var rfl) ea_nil))))) ?_) (ea_cons (EvP.is (ev_heard 0 (by decide) (t012 two_ok) (ea_cons ev_int (ea_cons (ev_var rfl) (ea_cons ev_t3 (ea_cons (ev_var rfl) ea_nil))))) ?_) (ea_cons (ev_call (F := FMust) (ea_cons (ev_var rfl) (ea_cons ev_t3 (ea_cons (ev_var rfl) ea_nil))) ⟨_, 3, _, _, _, _, _, rfl, t201 two_ok, by rw [bh_twoM]⟩) ea_nil))) (by simp)) (by simp [got2, got1]))) ?_
  · unfold heardO
    rw [bh_two3]
    rfl
  · unfold heardO
    rw [bh_two0]
    rfl
  have hsm : Sm 3 (.lst got3) (.lst got3) true := sm_lst (fun d hd => by
    have e : got3 = [.int 1, nats [0, 2, 1], .int 1, nats [1, 2], .bl false, .int 1, .lst [.bl true, .bl true, .bl false], canD, .int 1, canD, nats [0, 1, 2]] := rfl
    rw [e] at hd
    simp only [List.mem_cons, List.not_mem_nil, or_false] at hd
    rcases hd with rfl | rfl | rfl | rfl | rfl | rfl | rfl | rfl | rfl | rfl | rfl
    · exact sm_int _
    · exact sm_natsT (by decide)
    · exact sm_int _
    · exact sm_natsT (by decide)
    · exact sm_bl _
    · exact sm_int _
    · exact sm_bls (xs := [true, true, false]) (f := id) (by decide)
    · exact sm_can
    · exact sm_int _
    · exact sm_can
    · exact sm_natsT (by decide)) (by decide)
  have hdue : ∀ {b : Bool} {ps : Ds}, EvP b ps (tLst (tCons (tC (.int 1)) (tCons (tTup (tCons (tC (.int 0)) (tCons (tC (.int 2)) (tCons (tC (.int 1)) tNil)))) (tCons (tC (.int 1)) (tCons (tTup (tCons (tC (.int 1)) (tCons (tC (.int 2)) tNil))) (tCons (tC (.bl false)) (tCons (tC (.int 1)) (tCons (tLst (tCons (tC (.bl true)) (tCons (tC (.bl true)) (tCons (tC (.bl false)) tNil)))) (tCons (tLst (tCons (tC (.str "can not")) (tCons (tC (.bl true)) tNil))) (tCons (tC (.int 1)) (tCons (tLst (tCons (tC (.str "can not")) (tCons (tC (.bl true)) tNil))) (tCons (tTup (tCons (tC (.int 0)) (tCons (tC (.int 1)) (tCons (tC (.int 2)) tNil)))) tNil)))))))))))) (.lst got3) := fun {b ps} =>
    ev_lst (ea_cons ev_int (ea_cons (ev_t3 (i := 0) (j := 2) (k := 1)) (ea_cons ev_int (ea_cons (ev_tup (ea_cons ev_int (ea_cons ev_int ea_nil)) (by simp)) (ea_cons ev_bl (ea_cons ev_int (ea_cons (ev_lst (ea_cons ev_bl (ea_cons ev_bl (ea_cons ev_bl ea_nil))) (by simp)) (ea_cons (ev_lst (ea_cons ev_str (ea_cons ev_bl ea_nil)) (by simp)) (ea_cons ev_int (ea_cons (ev_lst (ea_cons ev_str (ea_cons ev_bl ea_nil)) (by simp)) (ea_cons (ev_t3 (i := 0) (j := 1) (k := 2)) ea_nil))))))))))) (by decide)
  exact sd_ret (ev_call (F := FSame 3) (ea_cons (ev_var rfl) (ea_cons hdue ea_nil)) ⟨_, _, true, rfl, hsm, rfl⟩)
end
end SP
set_option Elab.async false
set_option linter.all false
set_option maxRecDepth 100000
set_option maxHeartbeats 1000000
/-! Stillpanes: _law_cells and law, of a script that the caller holds. -/
namespace SP
open PySem L2 PySem.Spec PyProof.Rows
theorem SqL.mono {K : PySem.W.Frag} {H H' : Hp} {a : Addr} {xs : List V} (e : Same H H') (h : SqL K H a xs) : SqL K H' a xs := by
  rcases h with (h | ⟨o, h⟩) | h
  · exact .inl (.inl (e _ _ h))
  · exact .inl (.inr ⟨o, e _ _ h⟩)
  · exact .inr h
theorem Walk.up {b : Bool} {J : It} {G G' : Hp} {ds : List D} (w : Walk b J G ds) (s : Sub G G') : Walk b J G' ds := fun i H h => by
  obtain ⟨h1, h2⟩ := w i H fun c o z => h c o (s c o z)
  refine ⟨fun hi => ?_, h2⟩
  obtain ⟨g1, g2⟩ := h1 hi
  refine ⟨g1, fun x H' hy => ?_⟩
  obtain ⟨e, d, hd, r⟩ := g2 x H' hy
  refine ⟨e, d, hd, r.same fun c o z => ?_⟩
  rcases ext_cases z with ⟨⟨vs, rfl⟩, z⟩ | ⟨z1, z⟩ | ⟨_, z⟩
  · exact ext_tup z
  · exact ext_new z1 z
  · exact ext_ge h e _ _ (s _ _ z)
section
variable {A : List Addr} {C C' : Hp} {b : Bool} {ps : Ds} {G0 H0 H G : Hp} {σ : L2.St} {K : PySem.W.Frag} {a : Addr} {ns : List Int}
/-- list(xs) or [0], xs any way -/
theorem At.newOrW (a : At b G0 H0 A C ps σ H) {te : TE} {ns : List Int} {Q : VK} (h : ∀ Q' : VK, (∀ v H', Same H H' → R b (ext (Gx A G0 H0 H) H H') v (.lst (ns.map .int)) → Q' v H') → te σ H Q') (k : ∀ p H1, SameX A H H1 → p ∉ A → H0 p = none → At b G0 H0 (p :: A) (upd C p (urnO (if ns.isEmpty = true then [0] else ns))) ps σ H1 → Q (.ref p) H1) :
    tOrT K (tCB (rLstQ K) (tCons te tNil)) (tLst (tCons (tC (.int 0)) tNil)) σ H Q := by
  unfold tOrT tCB
  refine h _ fun v H1 e1 r1 => ?_
  have a1 := a.same' e1
  obtain ⟨l, xs, rfl, el, rl⟩ := R.lst_ r1
  have exs := rl.ints
  subst exs
  refine ⟨l, ns.map V.int, rfl, .inl (SqL.of (ext_sub a.gsub e1 _ _ el)), fun p hp => ⟨!(ns.map V.int).isEmpty, .inl ⟨_, SqL.of upd_same, rfl⟩, ?_⟩⟩
  cases hn : ns with
  | cons n0 nr =>
    rw [List.map_cons, List.isEmpty_cons, Bool.not_false, if_pos rfl, ← List.map_cons]
    obtain ⟨a2, h1, h2⟩ := a1.own_ (o := urnO (n0 :: nr)) hp trivial
    exact k p _ ((SameX.of e1).trans (.of (same_upd hp))) h1 h2 (by rw [hn, List.isEmpty_cons, if_neg (by decide)]; exact a2)
  | nil =>
    rw [List.map_nil, List.isEmpty_nil, Bool.not_true, if_neg (by decide)]
    refine ⟨by show 1 ≤ sizeLine; decide, fun p2 hp2 => ?_⟩
    have a1' := a1.same' (same_upd (o := HO.lst []) hp)
    obtain ⟨a2, h1, h2⟩ := a1'.own_ (o := urnO [0]) hp2 trivial
    exact k p2 _ ((SameX.of e1).trans ((SameX.of (same_upd hp)).trans (.of (same_upd hp2)))) h1 h2 (by rw [hn, List.isEmpty_nil, if_pos rfl]; exact a2)
/-- a slice of a list that the caller holds: xs[:m], xs[m:k] -/
theorem sl_held0 (s : Sub G H) (l : SL b G σ ps) {i j : Nat} {m : Int} (hi : ps[i]? = some (some (.adr a))) (hj : ps[j]? = some (some (.int m))) (hS : SqL K H a (ns.map V.int)) {Q : VK} (q : ∀ v H', Same H H' → R b (ext G H H') v (.lst (cutD (ns.map .int) none (some m))) → Q v H') : tSl (rSlL K) (tVar i) tNoPart (tPart (tVar j)) σ H Q := by
  obtain ⟨v0, ev0, r0⟩ := l.2 i _ hi
  cases r0.adr_
  obtain ⟨v1, ev1, r1⟩ := l.2 j _ hj
  cases r1.int_
  exact ⟨.ref a, ev0, .int m, ev1, m, rfl, a, ns.map V.int, rfl, hS, fun p hp => q _ _ (same_upd hp) (r_newL s hp ((RL.of_ints ns).cut none (some m)))⟩
theorem sl_held1 (s : Sub G H) (l : SL b G σ ps) {i j : Nat} {m k : Int} (hi : ps[i]? = some (some (.adr a))) (hj : ps[j]? = some (some (.int m))) (hS : SqL K H a (ns.map V.int)) {Q : VK} (q : ∀ v H', Same H H' → R b (ext G H H') v (.lst (cutD (ns.map .int) (some m) (some k))) → Q v H') : tSl (rSlL K) (tVar i) (tPart (tVar j)) (tPart (tC (.int k))) σ H Q := by
  obtain ⟨v0, ev0, r0⟩ := l.2 i _ hi
  cases r0.adr_
  obtain ⟨v1, ev1, r1⟩ := l.2 j _ hj
  cases r1.int_
  exact ⟨.ref a, ev0, .int m, ev1, m, rfl, k, rfl, a, ns.map V.int, rfl, hS, fun p hp => q _ _ (same_upd hp) (r_newL s hp ((RL.of_ints ns).cut (some m) (some k)))⟩
/-- enumerate(e), where e at this place makes a list -/
theorem iv_at (s : Sub G H) {te : TE} {ds : List D} (h : ∀ Q' : VK, (∀ v H', Same H H' → R b (ext G H H') v (.lst ds) → Q' v H') → te σ H Q') {Rr : It → Hp → Prop} (q : ∀ J H2, Same H H2 → Walk b J (ext G H H2) (enumD ds) → Rr J H2) : iEnum K (tCons te tNil) σ H Rr := by
  refine h _ fun v H1 e1 r1 => ?_
  have z := iv_enumL (K := K) (t := tCons (tVar 0) tNil) (b := b) (ps := [some (.lst ds)]) (ds := ds) (ea_cons (ev_var rfl) ea_nil) [some v] H1 (ext G H H1) (ext_sub s e1) (SL.cons r1 SL.nil) Rr fun J H2 e2 w => q J H2 (e1.trans e2) (w.up (ext_ext s e1 e2))
  obtain ⟨x, hx, z⟩ := z
  cases hx
  exact z
end
section
variable {P : Program} {w : World} {K : PySem.W.Frag} {mg : Str → Option Value} {base : Heap}
/-- told a list that the caller holds, and 1 -/
def SpCells (K : PySem.W.Frag) : Sp := fun vs H Q _ => ∃ (a : Addr) (ns : List Int), vs = [.ref a, .int 1] ∧ SqL K H a (ns.map V.int) ∧ ns.length ≤ 1000 ∧ ∀ v H', Same H H' → R true (new H H') v (.lst [.int (cellsZ ns)]) → Q v H'
theorem ok_law_cellsS (T : Txt mg) {f : Addr} {fd : FuncData} (Fn : Fun K "_law_cells" "_law_cells" (top 31) f fd) : FnOk P w K mg base (L2.CX P w) 1 f fd ["_law_script", "_law_many"] (SpCells K) := by
  refine Fn.okX (k := 0) sc_law_cells (fun vs H Q E ⟨a, ns, e, _⟩ => by rw [e]; rfl) fun cdv A outer s H vs Q E hr ⟨a, ns, e, hS, hl, fin⟩ => ?_
  subst e
  refine ⟨_, (pss_cons (ps_set (i := 2) sc_law_cells.nd rfl (Or.inl rfl) (orT_ K (pe_callTy (lst_ K) (by rfl) T.list_ bt_list (pa_cons (pe_slice (slL_ K) (pv 0) po_none (po_some (pv 1))) pa_nil)) (pe_one (pe_lst (pa_cons pe_int pa_nil)))))
      (pss_cons (ps_for (passes_of rfl) rfl (eL_ K (by rfl) T.enumerate_ (pa_cons (pe_slice (slL_ K) (pv 0) (po_some (pv 1)) (po_some pe_int)) pa_nil)) (gT_ K (n := 2) rfl (pgs_cons (pg_name (i := 3) sc_law_cells.nd rfl (Or.inl rfl)) (pgs_cons (pg_name (i := 4) sc_law_cells.nd rfl (Or.inl rfl)) pgs_nil)))
      (pss_cons (ps_set (i := 5) sc_law_cells.nd rfl (Or.inl rfl) (pe_op op_mod (pe_callTy call_int1 (by rfl) T.int_ bt_int (pa_cons (pv 3) pa_nil)) (pv 1)))
      (pss_one (ps_asg (pe_op op_add (pe_ix (ixL_ K) (pv 2) (pv 5) (fun _ _ => rfl)) (pe_op op_mul (pv 4) (pe_op op_add (pv 3) pe_int))) (pg_sub (pv 2) (pv 5) set_list)))))
      (pss_one (ps_ret (pv 2))))), ?_⟩
  have a0 : At false H H [] (fun _ => none) [some (.adr a), some (.int 1), none, none, none, none] (start ["_law_script", "_law_many", "_law_cells_here", "_law_k", "_law_cell", "_law_at"] [.ref a, .int 1]) H := At.startP (SL.start (.cons (.adr a) (.cons (.int 1) .nil)))
  have hs1 : HT.sIx ns.length 0 (some 1) = min 1 ns.length := HT.sIx_nat ns.length 0 1
  have hs2 : HT.sIx ns.length ns.length (some 1) = min 1 ns.length := HT.sIx_nat ns.length ns.length 1
  have hs3 : HT.sIx ns.length ns.length (some 63) = min 63 ns.length := HT.sIx_nat ns.length ns.length 63
  have hs4 : HT.sIx ns.length 0 none = 0 := rfl
  have hc1 : cutD (ns.map D.int) none (some 1) = (ns.take 1).map .int := by
    unfold cutD
    rw [List.length_map, hs2, hs4, List.drop_zero, Nat.sub_zero, ← List.map_take]
    congr 1
    exact List.take_eq_take_iff.mpr (by omega)
  have hc2 : cutD (ns.map D.int) (some 1) (some 63) = ((ns.drop 1).take 62).map .int := by
    unfold cutD
    rw [List.length_map, hs1, hs3, ← List.map_drop, ← List.map_take]
    congr 1
    cases ns with
    | nil => simp
    | cons n0 nr =>
      rw [show min 1 (n0 :: nr).length = 1 from by rw [List.length_cons]; omega]
      refine List.take_eq_take_iff.mpr ?_
      rw [List.length_drop, List.length_cons]
      omega
  refine tseq_ (a0.newOrW (ns := ns.take 1) (fun Q' q' => sl_held0 (i := 0) (j := 1) (m := 1) a0.gsub a0.sl rfl rfl hS (by rw [hc1]; exact q')) fun p H1 e1 hpA hp0 a1' => ?_)
  refine gname_ ?_
  dsimp only
  have e0 : (if (ns.take 1).isEmpty = true then [0] else ns.take 1) = [ns.headD 0] := by
    cases ns <;> rfl
  rw [e0] at a1'
  have hp : p ∈ [p] := List.mem_singleton.mpr rfl
  have a1 : At false H H [p] (upd (fun _ => none) p (urnO [ns.headD 0])) [some (.adr a), some (.int 1), some (.adr p), none, none, none] _ H1 := a1'.set 2 (.adr p)
  have hS1 : SqL K H1 a (ns.map V.int) := SqL.mono e1.same hS
  refine tseq_ (a1.forW (items := ((ns.drop 1).take 62).zipIdx.map fun q => D.tup [.int (q.2 : Nat), .int q.1]) (fun i C ps => C p = some (urnO [(((ns.drop 1).take 62).zipIdx.take i).foldl cellsF (ns.headD 0)]) ∧ ps = [some (.adr a), some (.int 1), some (.adr p), none, none, none])
    (fun Rr q => iv_at (ds := ((ns.drop 1).take 62).map .int) a1.gsub (fun Q' q' => sl_held1 (i := 0) (j := 1) (m := 1) (k := 63) a1.gsub a1.sl rfl rfl hS1 (by rw [hc2]; exact q')) (by rw [enum_map]; exact q)) ⟨upd_same, rfl⟩ (fun H2 i d σ' H' v C' ps' f1 hd f2 a2 ⟨hc, hps⟩ r => ?_) fun σ' H' C' ps' f1 a2 ⟨hc, hps⟩ => ?_)
  · subst hps
    obtain ⟨q, hq, rfl⟩ : ∃ q : Int × Nat, ((ns.drop 1).take 62).zipIdx[i]? = some q ∧ d = .tup [.int (q.2 : Nat), .int q.1] := by
      rw [List.getElem?_map] at hd
      obtain ⟨q, hq, rfl⟩ := Option.map_eq_some_iff.mp hd
      exact ⟨q, hq, rfl⟩
    have hq2 : q.2 < 62 := by
      rw [List.getElem?_zipIdx] at hq
      obtain ⟨z, hz, rfl⟩ := Option.map_eq_some_iff.mp hq
      have := (List.getElem?_eq_some_iff.mp hz).1
      rw [List.length_take] at this
      show 0 + i < 62
      omega
    refine a2.gd (vs := [3, 4]) (gd_tup (gs_cons gd_name (gs_cons gd_name gs_nil)) rfl) r fun σ2 a3' => ?_
    have a3 : At false H H [p] C' [some (.adr a), some (.int 1), some (.adr p), some (.int (q.2 : Nat)), some (.int q.1), none] σ2 H' := a3'
    refine tseq_ (a3.evP (d := .int 0) (EvP.is (ev_mod (ev_intI (ea_cons (ev_var (n := 3) rfl) ea_nil)) (ev_var (n := 1) rfl) (by omega)) (by rw [Int.emod_one])) fun v H3 e3 a4' r4 => ?_)
    refine gname_ ?_
    dsimp only
    have a4 : At false H H [p] C' [some (.adr a), some (.int 1), some (.adr p), some (.int (q.2 : Nat)), some (.int q.1), some (.int 0)] _ H3 := a4'.set 5 r4
    refine a4.setO (j := 2) (i := 0) (st := [(((ns.drop 1).take 62).zipIdx.take i).foldl cellsF (ns.headD 0)]) rfl hp hc (ev_add (ev_ixL (ev_var (n := 2) rfl) (ev_var (n := 5) rfl) (atI_nat (j := 0) rfl)) (ev_mul (ev_var (n := 4) rfl) (ev_add (ev_var (n := 3) rfl) ev_int) (cmul_r (by omega) (by omega)))) (ev_var (n := 5) rfl) rfl fun H4 e4 a5 => ?_
    refine ⟨(f2.trans (.of e3)).trans e4, _, _, a5.fgt [3, 4, 5] rfl, ?_, rfl⟩
    have ht : ((ns.drop 1).take 62).zipIdx.take (i + 1) = ((ns.drop 1).take 62).zipIdx.take i ++ [q] := by
      rw [List.take_add_one (l := ((ns.drop 1).take 62).zipIdx), hq]
      rfl
    rw [upd_same, ht, List.foldl_append]
    rfl
  · subst hps
    rw [List.length_map, List.take_length] at hc
    refine a2.evP (ev_var (n := 2) rfl) fun v H2 e2 a3 r3 => ?_
    cases r3.adr_
    refine fin _ _ (a3.sameN fun c m => by rw [List.mem_singleton.mp m]; exact hp0) (.lst (ext_new hp0 (by rw [a3.own.at hp]; exact hc)) (rl_ints [cellsZ ns]))
end
end SP
set_option Elab.async false
set_option linter.all false
set_option maxRecDepth 100000
set_option maxHeartbeats 4000000
/-! Stillpanes: law. -/
namespace SP
open PySem L2 PySem.Spec PyProof.Rows
section
variable {X : Cx} {x : Str} {ps : List Str} {k : Nat} {sp : Sp} {E : L2.St → XK} {p pos : Pos}
theorem pe_has0 (h : Has X.prog X.w X.K X.mg X.base x ps k sp) (hr : Room k X.A) (hg : Gl X x) (hx : ∀ σ, PassesAt (L2.CX X.prog X.w) X σ (E σ)) (hdb : (x == ("__debug__" : Str)) = false := by decide) : PE X (.Call (.Name x p) [] [] pos) (tCallS sp E tNil) := by
  obtain ⟨f, fd, F, hm, hk, hb⟩ := h
  refine ⟨fun pins s σ H Q I h => ?_⟩
  refine wpAny_Call_Name_kw (ld_glob I hg hm ?_ hdb)
  exact PySem.W.callWith_K0 I.kIn hk (run_fnS (us := []) F hr hb (hx σ) I .nil h)
end
section
variable {b : Bool} {G0 H0 : Hp} {A : List Addr} {C C' : Hp} {ps qs : Ds} {σ : L2.St} {H H' : Hp} {K : PySem.W.Frag}
/-- a call whose answer is new -/
theorem At.evNew (a : At b G0 H0 A C ps σ H) {t : TA} {ds : List D} {d : D} {F : List D → D → Prop} {E : L2.St → XK} {Q : VK} (h : EaP b ps t ds) (hF : F ds d) (k : ∀ v H1 H2, Same H H1 → Same H1 H2 → At b G0 H0 A C ps σ H2 → R true (new H1 H2) v d → Q v H2) : tCallS (SpR F) E t σ H Q :=
  a.eaP h fun vs H1 e1 a1 r1 => ⟨ds, d, (r1.same a1.gsub).wk, hF, fun v H2 e2 r2 => k v H1 H2 e1 e2 (a1.same' e2) r2⟩
theorem evx_all {t : TA} {bs : List Bool} (h : EaX A C b ps t [.lst (bs.map .bl)] C') : EvX A C b ps (tCB (rAll K) t) (.bl (bs.all id)) C' := evx_cb h fun vs H G s rl Q q => by
  obtain ⟨v, rfl, r⟩ := rl.one_
  obtain ⟨a, vs, rfl, e, l⟩ := r.lst_
  exact ⟨a, bs, rfl, SqL.of (by rw [← l.bls]; exact s _ _ e), q _ H (Same.refl H) (.bl _)⟩
end
/-- the urn behind n laps -/
def lapU (us : List Int) : Nat → List Int
  | 0 => us
  | n + 1 => rightU (lapU us n)
theorem lapU_ok {us : List Int} (h : UOk 0 us) : ∀ n : Nat, UOk (60 * n) (lapU us n)
  | 0 => h.up (by omega)
  | n + 1 => (rightU_ok (lapU_ok h n)).up (by omega)
/-- told a list that the caller holds -/
def SpLaw (K : PySem.W.Frag) : Sp := fun vs H Q _ => ∃ (a : Addr) (ns : List Int), vs = [.ref a] ∧ SqL K H a (ns.map V.int) ∧ ns.length ≤ 1000 ∧ ∀ H', Same H H' → Q (.bl true) H'
section
variable {P : Program} {w : World} {K : PySem.W.Frag} {mg : Str → Option Value} {base : Heap}
theorem sc_law : FnScope ["_law_script", "_law_urn", "_law_lap"] ["_law_script"] (defScope (top 49)) := ⟨rfl, rfl, rfl, by decide +kernel, rfl, by decide +kernel, by decide +kernel⟩
theorem ok_law (T : Txt mg) (h_law_by_hand_right : Has P w K mg base "_law_by_hand_right" [] 7 (SpR FHand)) (h_law_box : Has P w K mg base "_law_box" ["_law_script", "_law_k"] 1 (SpR FBox)) (h_law_cells : Has P w K mg base "_law_cells" ["_law_script", "_law_many"] 1 (SpCells K)) (h_law_right : Has P w K mg base "_law_right" ["_law_urn"] 7 (SpU FRight))
    {f : Addr} {fd : FuncData} (Fn : Fun K "law" "law" (top 49) f fd) : FnOk P w K mg base (L2.CX P w) 8 f fd ["_law_script"] (SpLaw K) := by
  refine Fn.okX (k := 7) sc_law (fun vs H Q E ⟨a, ns, e, _⟩ => by rw [e]; rfl) fun cdv A outer s H vs Q E hr ⟨a, ns, e, hS, hl, fin⟩ => ?_
  subst e
  have hr_law_by_hand_right := hr
  have hr_law_right := hr
  have hr_law_box := hr.mono (by decide : 1 ≤ 7)
  have hr_law_cells := hr.mono (by decide : 1 ≤ 7)
  refine ⟨_, (pss_cons (ps_if (pt_not (pt_val (pe_has0 h_law_by_hand_right hr_law_by_hand_right (by rfl) pass0)))
      (pss_one (ps_ret pe_bl))
      pss_nil)
      (pss_cons (ps_set (i := 1) sc_law.nd rfl (Or.inr rfl) (pe_has h_law_box hr_law_box (by rfl) (pa_cons (pe_has h_law_cells hr_law_cells (by rfl) (pa_cons (pv 0) (pa_cons pe_int pa_nil)) pass0) (pa_cons pe_int pa_nil)) pass0))
      (pss_one (ps_ret (pe_callB (all_ K rfl) (by rfl) T.all_ bt_all (pa_cons (pe_lc (own := [("_law_lap", 2)]) rfl sc_law.nd (pi_range1 (by rfl) T.range_ (pa_cons pe_int pa_nil)) (blkOk_by (by rfl)) (fun _ _ _ _ _ => (pg_name (i := 2) sc_law.nd rfl (Or.inl rfl))) (fun _ _ _ _ _ => pts_nil) (fun _ _ _ _ _ => (pe_has h_law_right hr_law_right (by rfl) (pa_cons (pv 1) pa_nil) pass0))) pa_nil)))))), ?_⟩
  have a0 : At true (tups H) H [] (fun _ => none) [some (.adr a), none, none] (start ["_law_script", "_law_urn", "_law_lap"] [.ref a]) H := At.start (SL.start (.cons (.adr a) .nil))
  refine tseq_ (a0.etP (c := false) (EtP.is (et_not (et_B (ev_call (F := FHand) ea_nil ⟨rfl, rfl⟩))) rfl) fun H1 e1 a1 => ?_)
  rw [if_neg (by decide)]
  unfold tNext
  dsimp only
  obtain ⟨v0, ev0, r0⟩ := a1.sl.2 0 _ rfl
  cases r0.adr_
  refine tseq_ ⟨.ref a, ev0, a, ns, rfl, SqL.mono e1 hS, hl, fun v1 H1' e1' rv => ?_⟩
  have a1' := a1.same' e1'
  refine ⟨[.lst [.int (cellsZ ns)], .int 0], .lst ((boxL (cellsZ ns)).map .int), .cons (rv.wk.same new_sub) (.cons (.int 0) .nil), ⟨cellsZ ns, rfl, rfl⟩, fun v H3 e3 r2 => ?_⟩
  have a2 := a1'.same' e3
  refine gname_ ?_
  dsimp only
  obtain ⟨q, vs, rfl, eq, rl⟩ := r2.lst_
  have hvs : vs = (boxL (cellsZ ns)).map V.int := rl.ints
  subst hvs
  have hq : H1' q = none ∧ H3 q = some (urnO (boxL (cellsZ ns))) := by
    rcases ext_cases eq with ⟨⟨_, z⟩, _⟩ | ⟨h1, h2⟩ | ⟨_, z⟩
    · cases z
    · exact ⟨h1, h2⟩
    · cases z
  have hq0 : H q = none := by
    cases hz : H q with
    | none => rfl
    | some o =>
      have := e1' _ _ (e1 _ _ hz)
      rw [hq.1] at this
      cases this
  have a3' := (a2.set 1 (v := .ref q) (.adr q)).fgt [0] rfl
  have a3 : At true (tups H) H [] (fun _ => none) [none, some (.adr q), none] _ H3 := a3'
  obtain ⟨a4, hqA⟩ := a3.take (gx_at hq0 (by simp) hq.2) trivial hq0 (allImm_none (allImm_some (.adr q) (allImm_none allImm_nil)))
  have hqq : q ∈ [q] := List.mem_singleton.mpr rfl
  have hlap := evx_lc (A := [q]) (b := true) (ps := [none, some (.adr q), none]) (tt := tYes) (g := gName 2) (vs := [2]) (te := tCallS (SpU FRight) (fun _ => E0) (tCons (tVar 1) tNil)) (items := (List.range 3).map fun (i : Nat) => D.int (i : Int)) (wi := iRng1 (tCons (tC (.int 3)) tNil)) (fun i => upd (fun _ => none) q (urnO (lapU (boxL (cellsZ ns)) i))) (fun i => upd (fun _ => none) q (urnO (lapU (boxL (cellsZ ns)) i))) (fun i => [none, some (.adr q), some (.int (i : Nat))]) (fun _ => true) (fun i => .bl true) (fun i => (List.replicate i true).map .bl)
    (IvP.is (iv_rng1 (n := 3) (ea_cons ev_int ea_nil) rfl) (rng0 _)) (fun i d hd => by obtain ⟨_, rfl⟩ := rng_items hd; exact gd_1) (fun i hi => EtP.x et_yes) (fun i hi _ => ⟨evx_urn hqq (ea_cons (ev_var rfl) ea_nil) ⟨rfl, (lapU_ok (box_ok _) i).up (by rw [List.length_map, List.length_range] at hi; omega), rfl, rfl⟩, by rw [List.replicate_succ', List.map_append]; rfl⟩) (fun i hi z => nomatch z) rfl (by simp)
  refine a4.ev (EvX.is (evx_all (bs := List.replicate 3 true) (eax_cons hlap eax_nil)) (e := .bl true) rfl) fun v4 H4 e4 a5 r4 => ?_
  cases r4.bl_
  exact fin H4 (a5.sameN fun p hp => by rw [List.mem_singleton.mp hp]; exact hq0)
end
end SP
set_option Elab.async false
set_option linter.all false
set_option maxRecDepth 100000
set_option maxHeartbeats 4000000
/-! Stillpanes: what the top has left, and the row. -/
namespace SP
open PySem L2 PySem.Spec PyProof.Rows
section
variable {P : Program} {w : World} {K : PySem.W.Frag} {h : Heap} {mg : Str → Option Value} {base : Heap}
theorem has_mk {x : Str} {i : Nat} {f : Addr} {fd : FuncData} {ps : List Str} {k : Nat} {sp : Sp} (X : K.In h) (G : h.Ns mainGlobals mg) (a : PySem.W.nsIn K mainGlobals x = some (some (.ref f))) (kp : PySem.W.keepIn K (.ref f) = true) (F : FnOk P w K mg base (L2.CX P w) k f fd ps sp) (b : Binds K fd ps []) : Has P w K mg base x ps k sp :=
  ⟨f, fd, F, PySem.W.mg_of X G a, kp, b⟩
theorem all_mk (X : K.In h) (G : h.Ns mainGlobals mg) {fa C : Addr} (hfa : mg "law" = some (.ref fa)) {f_counts_more f_less_one f_is_number f_is_from f_has_next f_is_within f_moved f_law_exact f_law_row_off f_law_move f_law_row f_law_keeps f_all_states f_kept_states f_cheapest f_step_back f_is_kept f_is_drawing_of f_out_at f_tuple_of f_law_lists f_law_same f_fewest_moved f_is_least_moved f_stays_to f_out_by f_must_move f_can_stay f_least_moved f_law_drawings f_law_out f_law_is_one f_law_take f_law_of f_law_drawn_drawing f_law_drawn_limits f_law_drawn_layout f_law_box f_law_cells f_law_heard f_law_right f_law_by_hand_right f_law : Addr} {d_counts_more d_less_one d_is_number d_is_from d_has_next d_is_within d_moved d_law_exact d_law_row_off d_law_move d_law_row d_law_keeps d_all_states d_kept_states d_cheapest d_step_back d_is_kept d_is_drawing_of d_out_at d_tuple_of d_law_lists d_law_same d_fewest_moved d_is_least_moved d_stays_to d_out_by d_must_move d_can_stay d_least_moved d_law_drawings d_law_out d_law_is_one d_law_take d_law_of d_law_drawn_drawing d_law_drawn_limits d_law_drawn_layout d_law_box d_law_cells d_law_heard d_law_right d_law_by_hand_right d_law : FuncData} {tk : Nat}
    (aC : PySem.W.nsIn K mainGlobals "CanNot" = some (some (.ref C))) (qC : PySem.W.excIn K C [.type "ValueError", .type "Exception", .type "BaseException", .type "object"] "ValueError.__new__" = true) (kC : PySem.W.keepIn K (.ref C) = true) (sC : PySem.W.subIn K (.ref C) (.type "BaseException") = some true) (tC : PySem.W.typeIn K (.ref C) = some (.type "type"))
    (eC : PySem.W.exmOne K (.ref C) (.ref C) = some true) (vC : PySem.W.kitOne K (.ref C) (.type "ValueError") = some true) (xC : ExcC K C) (most : PySem.W.nsIn K mainGlobals "MOST_STATES" = some (some (.int 4000 tk)))
    (a_counts_more : PySem.W.nsIn K mainGlobals "counts_more" = some (some (.ref f_counts_more))) (F_counts_more : Fun K "counts_more" "counts_more" (top 11) f_counts_more d_counts_more) (k_counts_more : PySem.W.keepIn K (.ref f_counts_more) = true)
    (a_less_one : PySem.W.nsIn K mainGlobals "less_one" = some (some (.ref f_less_one))) (F_less_one : Fun K "less_one" "less_one" (top 17) f_less_one d_less_one) (k_less_one : PySem.W.keepIn K (.ref f_less_one) = true)
    (a_is_number : PySem.W.nsIn K mainGlobals "is_number" = some (some (.ref f_is_number))) (F_is_number : Fun K "is_number" "is_number" (top 4) f_is_number d_is_number) (k_is_number : PySem.W.keepIn K (.ref f_is_number) = true)
    (a_is_from : PySem.W.nsIn K mainGlobals "is_from" = some (some (.ref f_is_from))) (F_is_from : Fun K "is_from" "is_from" (top 8) f_is_from d_is_from) (k_is_from : PySem.W.keepIn K (.ref f_is_from) = true)
    (a_has_next : PySem.W.nsIn K mainGlobals "has_next" = some (some (.ref f_has_next))) (F_has_next : Fun K "has_next" "has_next" (top 14) f_has_next d_has_next) (k_has_next : PySem.W.keepIn K (.ref f_has_next) = true)
    (a_is_within : PySem.W.nsIn K mainGlobals "is_within" = some (some (.ref f_is_within))) (F_is_within : Fun K "is_within" "is_within" (top 10) f_is_within d_is_within) (k_is_within : PySem.W.keepIn K (.ref f_is_within) = true)
    (a_moved : PySem.W.nsIn K mainGlobals "moved" = some (some (.ref f_moved))) (F_moved : Fun K "moved" "moved" (top 9) f_moved d_moved) (k_moved : PySem.W.keepIn K (.ref f_moved) = true)
    (a_law_exact : PySem.W.nsIn K mainGlobals "_law_exact" = some (some (.ref f_law_exact))) (F_law_exact : Fun K "_law_exact" "_law_exact" (top 36) f_law_exact d_law_exact) (k_law_exact : PySem.W.keepIn K (.ref f_law_exact) = true)
    (a_law_row_off : PySem.W.nsIn K mainGlobals "_law_row_off" = some (some (.ref f_law_row_off))) (F_law_row_off : Fun K "_law_row_off" "_law_row_off" (top 38) f_law_row_off d_law_row_off) (k_law_row_off : PySem.W.keepIn K (.ref f_law_row_off) = true)
    (a_law_move : PySem.W.nsIn K mainGlobals "_law_move" = some (some (.ref f_law_move))) (F_law_move : Fun K "_law_move" "_law_move" (top 44) f_law_move d_law_move) (k_law_move : PySem.W.keepIn K (.ref f_law_move) = true)
    (a_law_row : PySem.W.nsIn K mainGlobals "_law_row" = some (some (.ref f_law_row))) (F_law_row : Fun K "_law_row" "_law_row" (top 37) f_law_row d_law_row) (k_law_row : PySem.W.keepIn K (.ref f_law_row) = true)
    (a_law_keeps : PySem.W.nsIn K mainGlobals "_law_keeps" = some (some (.ref f_law_keeps))) (F_law_keeps : Fun K "_law_keeps" "_law_keeps" (top 40) f_law_keeps d_law_keeps) (k_law_keeps : PySem.W.keepIn K (.ref f_law_keeps) = true)
    (a_all_states : PySem.W.nsIn K mainGlobals "all_states" = some (some (.ref f_all_states))) (F_all_states : Fun K "all_states" "all_states" (top 12) f_all_states d_all_states) (k_all_states : PySem.W.keepIn K (.ref f_all_states) = true)
    (a_kept_states : PySem.W.nsIn K mainGlobals "kept_states" = some (some (.ref f_kept_states))) (F_kept_states : Fun K "kept_states" "kept_states" (top 13) f_kept_states d_kept_states) (k_kept_states : PySem.W.keepIn K (.ref f_kept_states) = true)
    (a_cheapest : PySem.W.nsIn K mainGlobals "cheapest" = some (some (.ref f_cheapest))) (F_cheapest : Fun K "cheapest" "cheapest" (top 15) f_cheapest d_cheapest) (k_cheapest : PySem.W.keepIn K (.ref f_cheapest) = true)
    (a_step_back : PySem.W.nsIn K mainGlobals "step_back" = some (some (.ref f_step_back))) (F_step_back : Fun K "step_back" "step_back" (top 18) f_step_back d_step_back) (k_step_back : PySem.W.keepIn K (.ref f_step_back) = true)
    (a_is_kept : PySem.W.nsIn K mainGlobals "is_kept" = some (some (.ref f_is_kept))) (F_is_kept : Fun K "is_kept" "is_kept" (top 20) f_is_kept d_is_kept) (k_is_kept : PySem.W.keepIn K (.ref f_is_kept) = true)
    (a_is_drawing_of : PySem.W.nsIn K mainGlobals "is_drawing_of" = some (some (.ref f_is_drawing_of))) (F_is_drawing_of : Fun K "is_drawing_of" "is_drawing_of" (top 21) f_is_drawing_of d_is_drawing_of) (k_is_drawing_of : PySem.W.keepIn K (.ref f_is_drawing_of) = true)
    (a_out_at : PySem.W.nsIn K mainGlobals "out_at" = some (some (.ref f_out_at))) (F_out_at : Fun K "out_at" "out_at" (top 26) f_out_at d_out_at) (k_out_at : PySem.W.keepIn K (.ref f_out_at) = true)
    (a_tuple_of : PySem.W.nsIn K mainGlobals "tuple_of" = some (some (.ref f_tuple_of))) (F_tuple_of : Fun K "tuple_of" "tuple_of" (top 5) f_tuple_of d_tuple_of) (k_tuple_of : PySem.W.keepIn K (.ref f_tuple_of) = true)
    (a_law_lists : PySem.W.nsIn K mainGlobals "_law_lists" = some (some (.ref f_law_lists))) (F_law_lists : Fun K "_law_lists" "_law_lists" (top 33) f_law_lists d_law_lists) (k_law_lists : PySem.W.keepIn K (.ref f_law_lists) = true)
    (a_law_same : PySem.W.nsIn K mainGlobals "_law_same" = some (some (.ref f_law_same))) (F_law_same : Fun K "_law_same" "_law_same" (top 34) f_law_same d_law_same) (k_law_same : PySem.W.keepIn K (.ref f_law_same) = true)
    (a_fewest_moved : PySem.W.nsIn K mainGlobals "fewest_moved" = some (some (.ref f_fewest_moved))) (F_fewest_moved : Fun K "fewest_moved" "fewest_moved" (top 16) f_fewest_moved d_fewest_moved) (k_fewest_moved : PySem.W.keepIn K (.ref f_fewest_moved) = true)
    (a_is_least_moved : PySem.W.nsIn K mainGlobals "is_least_moved" = some (some (.ref f_is_least_moved))) (F_is_least_moved : Fun K "is_least_moved" "is_least_moved" (top 22) f_is_least_moved d_is_least_moved) (k_is_least_moved : PySem.W.keepIn K (.ref f_is_least_moved) = true)
    (a_stays_to : PySem.W.nsIn K mainGlobals "stays_to" = some (some (.ref f_stays_to))) (F_stays_to : Fun K "stays_to" "stays_to" (top 25) f_stays_to d_stays_to) (k_stays_to : PySem.W.keepIn K (.ref f_stays_to) = true)
    (a_out_by : PySem.W.nsIn K mainGlobals "out_by" = some (some (.ref f_out_by))) (F_out_by : Fun K "out_by" "out_by" (top 27) f_out_by d_out_by) (k_out_by : PySem.W.keepIn K (.ref f_out_by) = true)
    (a_must_move : PySem.W.nsIn K mainGlobals "must_move" = some (some (.ref f_must_move))) (F_must_move : Fun K "must_move" "must_move" (top 24) f_must_move d_must_move) (k_must_move : PySem.W.keepIn K (.ref f_must_move) = true)
    (a_can_stay : PySem.W.nsIn K mainGlobals "can_stay" = some (some (.ref f_can_stay))) (F_can_stay : Fun K "can_stay" "can_stay" (top 23) f_can_stay d_can_stay) (k_can_stay : PySem.W.keepIn K (.ref f_can_stay) = true)
    (a_least_moved : PySem.W.nsIn K mainGlobals "least_moved" = some (some (.ref f_least_moved))) (F_least_moved : Fun K "least_moved" "least_moved" (top 19) f_least_moved d_least_moved) (k_least_moved : PySem.W.keepIn K (.ref f_least_moved) = true)
    (a_law_drawings : PySem.W.nsIn K mainGlobals "_law_drawings" = some (some (.ref f_law_drawings))) (F_law_drawings : Fun K "_law_drawings" "_law_drawings" (top 39) f_law_drawings d_law_drawings) (k_law_drawings : PySem.W.keepIn K (.ref f_law_drawings) = true)
    (a_law_out : PySem.W.nsIn K mainGlobals "_law_out" = some (some (.ref f_law_out))) (F_law_out : Fun K "_law_out" "_law_out" (top 45) f_law_out d_law_out) (k_law_out : PySem.W.keepIn K (.ref f_law_out) = true)
    (a_law_is_one : PySem.W.nsIn K mainGlobals "_law_is_one" = some (some (.ref f_law_is_one))) (F_law_is_one : Fun K "_law_is_one" "_law_is_one" (top 35) f_law_is_one d_law_is_one) (k_law_is_one : PySem.W.keepIn K (.ref f_law_is_one) = true)
    (a_law_take : PySem.W.nsIn K mainGlobals "_law_take" = some (some (.ref f_law_take))) (F_law_take : Fun K "_law_take" "_law_take" (top 30) f_law_take d_law_take) (k_law_take : PySem.W.keepIn K (.ref f_law_take) = true)
    (a_law_of : PySem.W.nsIn K mainGlobals "_law_of" = some (some (.ref f_law_of))) (F_law_of : Fun K "_law_of" "_law_of" (top 32) f_law_of d_law_of) (k_law_of : PySem.W.keepIn K (.ref f_law_of) = true)
    (a_law_drawn_drawing : PySem.W.nsIn K mainGlobals "_law_drawn_drawing" = some (some (.ref f_law_drawn_drawing))) (F_law_drawn_drawing : Fun K "_law_drawn_drawing" "_law_drawn_drawing" (top 43) f_law_drawn_drawing d_law_drawn_drawing) (k_law_drawn_drawing : PySem.W.keepIn K (.ref f_law_drawn_drawing) = true)
    (a_law_drawn_limits : PySem.W.nsIn K mainGlobals "_law_drawn_limits" = some (some (.ref f_law_drawn_limits))) (F_law_drawn_limits : Fun K "_law_drawn_limits" "_law_drawn_limits" (top 42) f_law_drawn_limits d_law_drawn_limits) (k_law_drawn_limits : PySem.W.keepIn K (.ref f_law_drawn_limits) = true)
    (a_law_drawn_layout : PySem.W.nsIn K mainGlobals "_law_drawn_layout" = some (some (.ref f_law_drawn_layout))) (F_law_drawn_layout : Fun K "_law_drawn_layout" "_law_drawn_layout" (top 41) f_law_drawn_layout d_law_drawn_layout) (k_law_drawn_layout : PySem.W.keepIn K (.ref f_law_drawn_layout) = true)
    (a_law_box : PySem.W.nsIn K mainGlobals "_law_box" = some (some (.ref f_law_box))) (F_law_box : Fun K "_law_box" "_law_box" (top 29) f_law_box d_law_box) (k_law_box : PySem.W.keepIn K (.ref f_law_box) = true)
    (a_law_cells : PySem.W.nsIn K mainGlobals "_law_cells" = some (some (.ref f_law_cells))) (F_law_cells : Fun K "_law_cells" "_law_cells" (top 31) f_law_cells d_law_cells) (k_law_cells : PySem.W.keepIn K (.ref f_law_cells) = true)
    (a_law_heard : PySem.W.nsIn K mainGlobals "_law_heard" = some (some (.ref f_law_heard))) (F_law_heard : Fun K "_law_heard" "_law_heard" (top 46) f_law_heard d_law_heard) (k_law_heard : PySem.W.keepIn K (.ref f_law_heard) = true)
    (a_law_right : PySem.W.nsIn K mainGlobals "_law_right" = some (some (.ref f_law_right))) (F_law_right : Fun K "_law_right" "_law_right" (top 47) f_law_right d_law_right) (k_law_right : PySem.W.keepIn K (.ref f_law_right) = true)
    (a_law_by_hand_right : PySem.W.nsIn K mainGlobals "_law_by_hand_right" = some (some (.ref f_law_by_hand_right))) (F_law_by_hand_right : Fun K "_law_by_hand_right" "_law_by_hand_right" (top 48) f_law_by_hand_right d_law_by_hand_right) (k_law_by_hand_right : PySem.W.keepIn K (.ref f_law_by_hand_right) = true)
    (a_law : PySem.W.nsIn K mainGlobals "law" = some (some (.ref f_law))) (F_law : Fun K "law" "law" (top 49) f_law d_law) (k_law : PySem.W.keepIn K (.ref f_law) = true)
    (z_len : PySem.W.nsIn K mainGlobals "len" = some none)
    (z_sum : PySem.W.nsIn K mainGlobals "sum" = some none)
    (z_abs : PySem.W.nsIn K mainGlobals "abs" = some none)
    (z_any : PySem.W.nsIn K mainGlobals "any" = some none)
    (z_all : PySem.W.nsIn K mainGlobals "all" = some none)
    (z_min : PySem.W.nsIn K mainGlobals "min" = some none)
    (z_max : PySem.W.nsIn K mainGlobals "max" = some none)
    (z_isinstance : PySem.W.nsIn K mainGlobals "isinstance" = some none)
    (z_sorted : PySem.W.nsIn K mainGlobals "sorted" = some none)
    (z_int : PySem.W.nsIn K mainGlobals "int" = some none)
    (z_tuple : PySem.W.nsIn K mainGlobals "tuple" = some none)
    (z_list : PySem.W.nsIn K mainGlobals "list" = some none)
    (z_dict : PySem.W.nsIn K mainGlobals "dict" = some none)
    (z_bool : PySem.W.nsIn K mainGlobals "bool" = some none)
    (z_str : PySem.W.nsIn K mainGlobals "str" = some none)
    (z_ValueError : PySem.W.nsIn K mainGlobals "ValueError" = some none)
    (z_enumerate : PySem.W.nsIn K mainGlobals "enumerate" = some none)
    (z_zip : PySem.W.nsIn K mainGlobals "zip" = some none)
    (z_range : PySem.W.nsIn K mainGlobals "range" = some none) :
    ∃ fd : FuncData, (∀ (s : Shared) (u : Value), BindsTo s fd ⟨[u], []⟩ [("_law_script", u)]) ∧ ∀ base : Heap, K.In base → base.Ns mainGlobals mg → FnOk P w K mg base (L2.CX P w) 8 fa fd ["_law_script"] (SpLaw K) := by
  have e := hfa.symm.trans (PySem.W.mg_of X G a_law)
  cases e
  have T : Txt mg := ⟨PySem.W.mg_none_of X G z_len, PySem.W.mg_none_of X G z_sum, PySem.W.mg_none_of X G z_abs, PySem.W.mg_none_of X G z_any, PySem.W.mg_none_of X G z_all, PySem.W.mg_none_of X G z_min, PySem.W.mg_none_of X G z_max, PySem.W.mg_none_of X G z_isinstance, PySem.W.mg_none_of X G z_sorted, PySem.W.mg_none_of X G z_int, PySem.W.mg_none_of X G z_tuple, PySem.W.mg_none_of X G z_list, PySem.W.mg_none_of X G z_dict, PySem.W.mg_none_of X G z_bool, PySem.W.mg_none_of X G z_str, PySem.W.mg_none_of X G z_ValueError, PySem.W.mg_none_of X G z_enumerate, PySem.W.mg_none_of X G z_zip, PySem.W.mg_none_of X G z_range, ⟨tk, PySem.W.mg_of X G most⟩⟩
  have XC : XCan K mg C := ⟨qC, PySem.W.mg_of X G aC, kC, sC, tC⟩
  have XE : XCanE K C := ⟨eC, xC, vC⟩
  have b_counts_more : Binds K d_counts_more ["counts", "pane"] [] := F_counts_more.binds fun _ _ _ _ _ _ us hl => match us, hl with | [_, _], _ => rfl
  have b_less_one : Binds K d_less_one ["counts", "pane"] [] := F_less_one.binds fun _ _ _ _ _ _ us hl => match us, hl with | [_, _], _ => rfl
  have b_is_number : Binds K d_is_number ["thing"] [] := F_is_number.binds fun _ _ _ _ _ _ us hl => match us, hl with | [_], _ => rfl
  have b_is_from : Binds K d_is_from ["thing", "least"] [] := F_is_from.binds fun _ _ _ _ _ _ us hl => match us, hl with | [_, _], _ => rfl
  have b_has_next : Binds K d_has_next ["counts", "later"] [] := F_has_next.binds fun _ _ _ _ _ _ us hl => match us, hl with | [_, _], _ => rfl
  have b_is_within : Binds K d_is_within ["layout", "limits", "width", "counts"] [] := F_is_within.binds fun _ _ _ _ _ _ us hl => match us, hl with | [_, _, _, _], _ => rfl
  have b_moved : Binds K d_moved ["layout", "drawing", "other"] [] := F_moved.binds fun _ _ _ _ _ _ us hl => match us, hl with | [_, _, _], _ => rfl
  have b_law_exact : Binds K d_law_exact ["_law_layout", "_law_group", "_law_width"] [] := F_law_exact.binds fun _ _ _ _ _ _ us hl => match us, hl with | [_, _, _], _ => rfl
  have b_law_row_off : Binds K d_law_row_off ["_law_layout", "_law_group", "_law_row_here"] [] := F_law_row_off.binds fun _ _ _ _ _ _ us hl => match us, hl with | [_, _, _], _ => rfl
  have b_law_move : Binds K d_law_move ["_law_one", "_law_other"] [] := F_law_move.binds fun _ _ _ _ _ _ us hl => match us, hl with | [_, _], _ => rfl
  have b_law_row : Binds K d_law_row ["_law_drawing", "_law_group"] [] := F_law_row.binds fun _ _ _ _ _ _ us hl => match us, hl with | [_, _], _ => rfl
  have b_law_keeps : Binds K d_law_keeps ["_law_layout", "_law_drawing", "_law_limits"] [] := F_law_keeps.binds fun _ _ _ _ _ _ us hl => match us, hl with | [_, _, _], _ => rfl
  have b_all_states : Binds K d_all_states ["layout", "limits"] [] := F_all_states.binds fun _ _ _ _ _ _ us hl => match us, hl with | [_, _], _ => rfl
  have b_kept_states : Binds K d_kept_states ["layout", "limits"] [] := F_kept_states.binds fun _ _ _ _ _ _ us hl => match us, hl with | [_, _], _ => rfl
  have b_cheapest : Binds K d_cheapest ["layout", "drawing", "limits"] [] := F_cheapest.binds fun _ _ _ _ _ _ us hl => match us, hl with | [_, _, _], _ => rfl
  have b_step_back : Binds K d_step_back ["ahead", "counts", "cost", "pane"] [] := F_step_back.binds fun _ _ _ _ _ _ us hl => match us, hl with | [_, _, _, _], _ => rfl
  have b_is_kept : Binds K d_is_kept ["layout", "drawing", "limits"] [] := F_is_kept.binds fun _ _ _ _ _ _ us hl => match us, hl with | [_, _, _], _ => rfl
  have b_is_drawing_of : Binds K d_is_drawing_of ["layout", "thing"] [] := F_is_drawing_of.binds fun _ _ _ _ _ _ us hl => match us, hl with | [_, _], _ => rfl
  have b_out_at : Binds K d_out_at ["layout", "group", "off", "width", "many"] [] := F_out_at.binds fun _ _ _ _ _ _ us hl => match us, hl with | [_, _, _, _, _], _ => rfl
  have b_tuple_of : Binds K d_tuple_of ["thing"] [] := F_tuple_of.binds fun _ _ _ _ _ _ us hl => match us, hl with | [_], _ => rfl
  have b_law_lists : Binds K d_law_lists ["_law_matter"] [] := F_law_lists.binds fun _ _ _ _ _ _ us hl => match us, hl with | [_], _ => rfl
  have b_law_same : Binds K d_law_same ["_law_got", "_law_due"] [] := F_law_same.binds fun _ _ _ _ _ _ us hl => match us, hl with | [_, _], _ => rfl
  have b_fewest_moved : Binds K d_fewest_moved ["layout", "drawing", "limits"] [] := F_fewest_moved.binds fun _ _ _ _ _ _ us hl => match us, hl with | [_, _, _], _ => rfl
  have b_is_least_moved : Binds K d_is_least_moved ["layout", "drawing", "limits", "thing"] [] := F_is_least_moved.binds fun _ _ _ _ _ _ us hl => match us, hl with | [_, _, _, _], _ => rfl
  have b_stays_to : Binds K d_stays_to ["layout", "drawing", "limits"] [] := F_stays_to.binds fun _ _ _ _ _ _ us hl => match us, hl with | [_, _, _], _ => rfl
  have b_out_by : Binds K d_out_by ["layout", "drawing", "limits"] [] := F_out_by.binds fun _ _ _ _ _ _ us hl => match us, hl with | [_, _, _], _ => rfl
  have b_must_move : Binds K d_must_move ["layout", "drawing", "limits"] [] := F_must_move.binds fun _ _ _ _ _ _ us hl => match us, hl with | [_, _, _], _ => rfl
  have b_can_stay : Binds K d_can_stay ["layout", "drawing", "limits", "pixels"] [] := F_can_stay.binds fun _ _ _ _ _ _ us hl => match us, hl with | [_, _, _, _], _ => rfl
  have b_least_moved : Binds K d_least_moved ["layout", "drawing", "limits"] [] := F_least_moved.binds fun _ _ _ _ _ _ us hl => match us, hl with | [_, _, _], _ => rfl
  have b_law_drawings : Binds K d_law_drawings ["_law_layout"] [] := F_law_drawings.binds fun _ _ _ _ _ _ us hl => match us, hl with | [_], _ => rfl
  have b_law_out : Binds K d_law_out ["_law_layout", "_law_drawing", "_law_limits"] [] := F_law_out.binds fun _ _ _ _ _ _ us hl => match us, hl with | [_, _, _], _ => rfl
  have b_law_is_one : Binds K d_law_is_one ["_law_told", "_law_some"] [] := F_law_is_one.binds fun _ _ _ _ _ _ us hl => match us, hl with | [_, _], _ => rfl
  have b_law_take : Binds K d_law_take ["_law_urn", "_law_below"] [] := F_law_take.binds fun _ _ _ _ _ _ us hl => match us, hl with | [_, _], _ => rfl
  have b_law_of : Binds K d_law_of ["_law_urn", "_law_some"] [] := F_law_of.binds fun _ _ _ _ _ _ us hl => match us, hl with | [_, _], _ => rfl
  have b_law_drawn_drawing : Binds K d_law_drawn_drawing ["_law_urn", "_law_layout"] [] := F_law_drawn_drawing.binds fun _ _ _ _ _ _ us hl => match us, hl with | [_, _], _ => rfl
  have b_law_drawn_limits : Binds K d_law_drawn_limits ["_law_urn", "_law_layout"] [] := F_law_drawn_limits.binds fun _ _ _ _ _ _ us hl => match us, hl with | [_, _], _ => rfl
  have b_law_drawn_layout : Binds K d_law_drawn_layout ["_law_urn"] [] := F_law_drawn_layout.binds fun _ _ _ _ _ _ us hl => match us, hl with | [_], _ => rfl
  have b_law_box : Binds K d_law_box ["_law_script", "_law_k"] [] := F_law_box.binds fun _ _ _ _ _ _ us hl => match us, hl with | [_, _], _ => rfl
  have b_law_cells : Binds K d_law_cells ["_law_script", "_law_many"] [] := F_law_cells.binds fun _ _ _ _ _ _ us hl => match us, hl with | [_, _], _ => rfl
  have b_law_heard : Binds K d_law_heard ["_law_door", "_law_layout", "_law_drawing", "_law_limits"] [] := F_law_heard.binds fun _ _ _ _ _ _ us hl => match us, hl with | [_, _, _, _], _ => rfl
  have b_law_right : Binds K d_law_right ["_law_urn"] [] := F_law_right.binds fun _ _ _ _ _ _ us hl => match us, hl with | [_], _ => rfl
  have b_law_by_hand_right : Binds K d_law_by_hand_right [] [] := F_law_by_hand_right.binds fun _ _ _ _ _ _ us hl => match us, hl with | [], _ => rfl
  obtain ⟨oc, od, kV, doc, pm, an, cdv, ct, osl, rfl, lk, hcd⟩ := id F_law.ex
  refine ⟨PySem.W.fnOf "law" "law" (defArgs (top 49)) (defBody (top 49)) (defScope (top 49)) .none kV doc pm an cdv ct, fun s u => .of_eq rfl, fun base _ _ => ?_⟩
  have h_counts_more : Has P w K mg base "counts_more" ["counts", "pane"] 1 (SpR FMore) := has_mk (i := 11) X G a_counts_more k_counts_more (ok_counts_more F_counts_more) b_counts_more
  have h_less_one : Has P w K mg base "less_one" ["counts", "pane"] 1 (SpR FLess) := has_mk (i := 17) X G a_less_one k_less_one (ok_less_one F_less_one) b_less_one
  have h_is_number : Has P w K mg base "is_number" ["thing"] 1 (SpR FNum) := has_mk (i := 4) X G a_is_number k_is_number (ok_is_number T F_is_number) b_is_number
  have h_is_from : Has P w K mg base "is_from" ["thing", "least"] 2 (SpR FFrom) := has_mk (i := 8) X G a_is_from k_is_from (ok_is_from h_is_number F_is_from) b_is_from
  have h_has_next : Has P w K mg base "has_next" ["counts", "later"] 2 (SpR FNext) := has_mk (i := 14) X G a_has_next k_has_next (ok_has_next T h_counts_more F_has_next) b_has_next
  have h_is_within : Has P w K mg base "is_within" ["layout", "limits", "width", "counts"] 1 (SpR FWithin) := has_mk (i := 10) X G a_is_within k_is_within (ok_is_within T F_is_within) b_is_within
  have h_moved : Has P w K mg base "moved" ["layout", "drawing", "other"] 1 (SpR FMoved) := has_mk (i := 9) X G a_moved k_moved (ok_moved T F_moved) b_moved
  have h_law_exact : Has P w K mg base "_law_exact" ["_law_layout", "_law_group", "_law_width"] 1 (SpR FExact) := has_mk (i := 36) X G a_law_exact k_law_exact (ok_law_exact T F_law_exact) b_law_exact
  have h_law_row_off : Has P w K mg base "_law_row_off" ["_law_layout", "_law_group", "_law_row_here"] 2 (SpR FRowOff) := has_mk (i := 38) X G a_law_row_off k_law_row_off (ok_law_row_off T h_law_exact F_law_row_off) b_law_row_off
  have h_law_move : Has P w K mg base "_law_move" ["_law_one", "_law_other"] 1 (SpR FMove) := has_mk (i := 44) X G a_law_move k_law_move (ok_law_move T F_law_move) b_law_move
  have h_law_row : Has P w K mg base "_law_row" ["_law_drawing", "_law_group"] 1 (SpR FRow) := has_mk (i := 37) X G a_law_row k_law_row (ok_law_row T F_law_row) b_law_row
  have h_law_keeps : Has P w K mg base "_law_keeps" ["_law_layout", "_law_drawing", "_law_limits"] 3 (SpR FKeeps) := has_mk (i := 40) X G a_law_keeps k_law_keeps (ok_law_keeps T h_law_row h_law_row_off F_law_keeps) b_law_keeps
  have h_all_states : Has P w K mg base "all_states" ["layout", "limits"] 2 (SpR FAll) := has_mk (i := 12) X G a_all_states k_all_states (ok_all_states T h_counts_more h_is_within F_all_states) b_all_states
  have h_kept_states : Has P w K mg base "kept_states" ["layout", "limits"] 3 (SpR FKept) := has_mk (i := 13) X G a_kept_states k_kept_states (ok_kept_states T h_all_states h_has_next F_kept_states) b_kept_states
  have h_cheapest : Has P w K mg base "cheapest" ["layout", "drawing", "limits"] 3 (SpR FCheap) := has_mk (i := 15) X G a_cheapest k_cheapest (ok_cheapest T h_all_states h_counts_more F_cheapest) b_cheapest
  have h_step_back : Has P w K mg base "step_back" ["ahead", "counts", "cost", "pane"] 2 (SpR FBack) := has_mk (i := 18) X G a_step_back k_step_back (ok_step_back T h_less_one F_step_back) b_step_back
  have h_is_kept : Has P w K mg base "is_kept" ["layout", "drawing", "limits"] 2 (SpR FIsKept) := has_mk (i := 20) X G a_is_kept k_is_kept (ok_is_kept T h_counts_more h_is_within F_is_kept) b_is_kept
  have h_is_drawing_of : Has P w K mg base "is_drawing_of" ["layout", "thing"] 3 (SpR FIsDraw) := has_mk (i := 21) X G a_is_drawing_of k_is_drawing_of (ok_is_drawing_of T h_is_from F_is_drawing_of) b_is_drawing_of
  have h_out_at : Has P w K mg base "out_at" ["layout", "group", "off", "width", "many"] 1 (SpE C FOutAt) := has_mk (i := 26) X G a_out_at k_out_at (ok_out_at T XC F_out_at) b_out_at
  have h_tuple_of : Has P w K mg base "tuple_of" ["thing"] 4 (SpR (FTup 3)) := has_mk (i := 5) X G a_tuple_of k_tuple_of (ok_tuple_of T F_tuple_of (PySem.W.mg_of X G a_tuple_of) k_tuple_of b_tuple_of 3) b_tuple_of
  have h_law_lists : Has P w K mg base "_law_lists" ["_law_matter"] 4 (SpR (FLists 3)) := has_mk (i := 33) X G a_law_lists k_law_lists (ok_law_lists T F_law_lists (PySem.W.mg_of X G a_law_lists) k_law_lists b_law_lists 3) b_law_lists
  have h_law_same : Has P w K mg base "_law_same" ["_law_got", "_law_due"] 4 (SpR (FSame 3)) := has_mk (i := 34) X G a_law_same k_law_same (ok_law_same T F_law_same (PySem.W.mg_of X G a_law_same) k_law_same b_law_same 3) b_law_same
  have h_law_same1 : Has P w K mg base "_law_same" ["_law_got", "_law_due"] 2 (SpR (FSame 1)) := has_mk (i := 34) X G a_law_same k_law_same (ok_law_same T F_law_same (PySem.W.mg_of X G a_law_same) k_law_same b_law_same 1) b_law_same
  have h_fewest_moved : Has P w K mg base "fewest_moved" ["layout", "drawing", "limits"] 5 (SpE C FFew) := has_mk (i := 16) X G a_fewest_moved k_fewest_moved (ok_fewest_moved T XC h_tuple_of h_cheapest F_fewest_moved) b_fewest_moved
  have h_is_least_moved : Has P w K mg base "is_least_moved" ["layout", "drawing", "limits", "thing"] 5 (SpR FLeastQ) := has_mk (i := 22) X G a_is_least_moved k_is_least_moved (ok_is_least_moved T h_tuple_of h_cheapest h_is_drawing_of h_is_kept h_moved F_is_least_moved) b_is_least_moved
  have h_stays_to : Has P w K mg base "stays_to" ["layout", "drawing", "limits"] 5 (SpE C FStays) := has_mk (i := 25) X G a_stays_to k_stays_to (ok_stays_to T XC h_tuple_of h_kept_states h_counts_more F_stays_to) b_stays_to
  have h_out_by : Has P w K mg base "out_by" ["layout", "drawing", "limits"] 5 (SpE C FOutBy) := has_mk (i := 27) X G a_out_by k_out_by (ok_out_by T XC h_tuple_of h_out_at F_out_by) b_out_by
  have h_must_move : Has P w K mg base "must_move" ["layout", "drawing", "limits"] 5 (SpR FMust) := has_mk (i := 24) X G a_must_move k_must_move (ok_must_move T h_tuple_of h_kept_states h_counts_more F_must_move) b_must_move
  have h_can_stay : Has P w K mg base "can_stay" ["layout", "drawing", "limits", "pixels"] 5 (SpR FCan) := has_mk (i := 23) X G a_can_stay k_can_stay (ok_can_stay T h_tuple_of h_all_states h_counts_more F_can_stay) b_can_stay
  have h_least_moved : Has P w K mg base "least_moved" ["layout", "drawing", "limits"] 5 (SpE C FLeast) := has_mk (i := 19) X G a_least_moved k_least_moved (ok_least_moved T XC h_tuple_of h_cheapest h_step_back h_less_one F_least_moved) b_least_moved
  have h_law_drawings : Has P w K mg base "_law_drawings" ["_law_layout"] 1 (SpR FDraws) := has_mk (i := 39) X G a_law_drawings k_law_drawings (ok_law_drawings T F_law_drawings) b_law_drawings
  have h_law_out : Has P w K mg base "_law_out" ["_law_layout", "_law_drawing", "_law_limits"] 2 (SpR FLOut) := has_mk (i := 45) X G a_law_out k_law_out (ok_law_out T h_law_row h_law_exact F_law_out) b_law_out
  have h_law_is_one : Has P w K mg base "_law_is_one" ["_law_told", "_law_some"] 3 (SpR FIsOne) := has_mk (i := 35) X G a_law_is_one k_law_is_one (ok_law_is_one T h_law_same1 F_law_is_one) b_law_is_one
  have h_law_take : Has P w K mg base "_law_take" ["_law_urn", "_law_below"] 1 (SpU FTake) := has_mk (i := 30) X G a_law_take k_law_take (ok_law_take T F_law_take) b_law_take
  have h_law_of : Has P w K mg base "_law_of" ["_law_urn", "_law_some"] 2 (SpU FOf) := has_mk (i := 32) X G a_law_of k_law_of (ok_law_of T h_law_take F_law_of) b_law_of
  have h_law_drawn_drawing : Has P w K mg base "_law_drawn_drawing" ["_law_urn", "_law_layout"] 2 (SpU FDrawn) := has_mk (i := 43) X G a_law_drawn_drawing k_law_drawn_drawing (ok_law_drawn_drawing T h_law_take F_law_drawn_drawing) b_law_drawn_drawing
  have h_law_drawn_limits : Has P w K mg base "_law_drawn_limits" ["_law_urn", "_law_layout"] 2 (SpU FDLims) := has_mk (i := 42) X G a_law_drawn_limits k_law_drawn_limits (ok_law_drawn_limits T h_law_take F_law_drawn_limits) b_law_drawn_limits
  have h_law_drawn_layout : Has P w K mg base "_law_drawn_layout" ["_law_urn"] 2 (SpU FLay) := has_mk (i := 41) X G a_law_drawn_layout k_law_drawn_layout (ok_law_drawn_layout T h_law_take F_law_drawn_layout) b_law_drawn_layout
  have h_law_box : Has P w K mg base "_law_box" ["_law_script", "_law_k"] 1 (SpR FBox) := has_mk (i := 29) X G a_law_box k_law_box (ok_law_box T F_law_box) b_law_box
  have h_law_cells : Has P w K mg base "_law_cells" ["_law_script", "_law_many"] 1 (SpCells K) := has_mk (i := 31) X G a_law_cells k_law_cells (ok_law_cellsS T F_law_cells) b_law_cells
  have h_law_heard : Has P w K mg base "_law_heard" ["_law_door", "_law_layout", "_law_drawing", "_law_limits"] 6 (SpR FHeard) := has_mk (i := 46) X G a_law_heard k_law_heard (ok_law_heard T XC XE h_fewest_moved h_least_moved h_stays_to h_out_by F_law_heard) b_law_heard
  have h_law_right : Has P w K mg base "_law_right" ["_law_urn"] 7 (SpU FRight) := has_mk (i := 47) X G a_law_right k_law_right (ok_law_right T XC h_law_take h_law_drawn_layout h_law_drawn_limits h_law_drawn_drawing h_law_drawings h_law_lists h_law_keeps h_law_move h_law_heard h_law_is_one h_law_of h_is_least_moved h_must_move h_can_stay h_law_out h_law_same h_fewest_moved h_moved F_law_right) b_law_right
  have h_law_by_hand_right : Has P w K mg base "_law_by_hand_right" [] 7 (SpR FHand) := has_mk (i := 48) X G a_law_by_hand_right k_law_by_hand_right (ok_law_by_hand_right T XC h_fewest_moved h_least_moved h_out_by h_must_move h_can_stay h_stays_to h_is_least_moved h_law_heard h_law_same F_law_by_hand_right) b_law_by_hand_right
  exact ok_law T h_law_by_hand_right h_law_box h_law_cells h_law_right F_law
theorem walk {l : PySem.W.OpenLaw} {q : Program} {loose : List Str} {XP : (Str → Option Value) → Heap → Prop} {YP : World → Heap → Prop} {d : DefRec} {K : Params → PySem.W.Frag} (hn : l.most = some 63) (hdf : d.params.defaults = [])
    (hY : ∀ (w : World) (h : Heap), YP w h → (K w.params).In h)
    (F : ∀ (w : World) (mg : Str → Option Value) (fa : Addr) (h : Heap), (K w.params).In h → h.Ns mainGlobals mg → mg d.name = some (.ref fa) →
      ∃ fd : FuncData, (∀ (s : Shared) (u : Value), BindsTo s fd ⟨[u], []⟩ [("_law_script", u)]) ∧ ∀ base : Heap, (K w.params).In base → base.Ns mainGlobals mg → FnOk l.prog w (K w.params) mg base (L2.CX l.prog w) 8 fa fd ["_law_script"] (SpLaw (K w.params))) :
    PySem.W.WalkO q loose XP YP l.row.toRowW d [] (fun f vs => PySem.call f vs) :=
  L2.walk_of (n := 63) (k := 8) (x := "_law_script") (CX := fun w => L2.CX l.prog w) (sp := fun w => SpLaw (K w.params)) hn (by decide) hdf ⟨rfl, by decide, by decide⟩ hY F (fun _ _ a ns hl _ hS => ⟨a, ns, rfl, hS, by omega, fun _ _ => rfl⟩) fun _ _ _ _ _ h => by
    obtain ⟨_, _, _, _, _, _, _, _, _, _, _, _, z⟩ := h
    exact z
end
end SP
set_option Elab.async false
set_option linter.all false
open PySem PySem.W PyProof.Rows
set_option maxRecDepth 100000 in
set_option maxHeartbeats 0 in
theorem PySem.Challenge.cw_stillpanes_k39_whole_fewest_moved_beside_holds : PySem.Challenge.rw_stillpanes_k39_whole_fewest_moved_beside.Holds := by
  w_on; o_law; k_head; (case hw => w_witness2)
  k_fill
  refine SP.walk (l := PySem.Challenge.rw_stillpanes_k39_whole_fewest_moved_beside) rfl rfl (fun w h Y => PySem.W.kIn_of Y) ?F
  case F =>
    intro w mg fa h KX G hmg
    refine' SP.all_mk KX G hmg ?aC ?qC ?kC ?sC ?tC ?eC ?vC ?xC ?most ?a_counts_more ?F_counts_more ?k_counts_more ?a_less_one ?F_less_one ?k_less_one ?a_is_number ?F_is_number ?k_is_number ?a_is_from ?F_is_from ?k_is_from ?a_has_next ?F_has_next ?k_has_next ?a_is_within ?F_is_within ?k_is_within ?a_moved ?F_moved ?k_moved ?a_law_exact ?F_law_exact ?k_law_exact ?a_law_row_off ?F_law_row_off ?k_law_row_off ?a_law_move ?F_law_move ?k_law_move ?a_law_row ?F_law_row ?k_law_row ?a_law_keeps ?F_law_keeps ?k_law_keeps ?a_all_states ?F_all_states ?k_all_states ?a_kept_states ?F_kept_states ?k_kept_states ?a_cheapest ?F_cheapest ?k_cheapest ?a_step_back ?F_step_back ?k_step_back ?a_is_kept ?F_is_kept ?k_is_kept ?a_is_drawing_of ?F_is_drawing_of ?k_is_drawing_of ?a_out_at ?F_out_at ?k_out_at ?a_tuple_of ?F_tuple_of ?k_tuple_of ?a_law_lists ?F_law_lists ?k_law_lists ?a_law_same ?F_law_same ?k_law_same ?a_fewest_moved ?F_fewest_moved ?k_fewest_moved ?a_is_least_moved ?F_is_least_moved ?k_is_least_moved ?a_stays_to ?F_stays_to ?k_stays_to ?a_out_by ?F_out_by ?k_out_by ?a_must_move ?F_must_move ?k_must_move ?a_can_stay ?F_can_stay ?k_can_stay ?a_least_moved ?F_least_moved ?k_least_moved ?a_law_drawings ?F_law_drawings ?k_law_drawings ?a_law_out ?F_law_out ?k_law_out ?a_law_is_one ?F_law_is_one ?k_law_is_one ?a_law_take ?F_law_take ?k_law_take ?a_law_of ?F_law_of ?k_law_of ?a_law_drawn_drawing ?F_law_drawn_drawing ?k_law_drawn_drawing ?a_law_drawn_limits ?F_law_drawn_limits ?k_law_drawn_limits ?a_law_drawn_layout ?F_law_drawn_layout ?k_law_drawn_layout ?a_law_box ?F_law_box ?k_law_box ?a_law_cells ?F_law_cells ?k_law_cells ?a_law_heard ?F_law_heard ?k_law_heard ?a_law_right ?F_law_right ?k_law_right ?a_law_by_hand_right ?F_law_by_hand_right ?k_law_by_hand_right ?a_law ?F_law ?k_law ?z_len ?z_sum ?z_abs ?z_any ?z_all ?z_min ?z_max ?z_isinstance ?z_sorted ?z_int ?z_tuple ?z_list ?z_dict ?z_bool ?z_str ?z_ValueError ?z_enumerate ?z_zip ?z_range
    (case aC => k_is); (case qC => kernel_rfl); (case kC => k_is); (case sC => k_is); (case tC => k_is); (case eC => kernel_rfl); (case vC => kernel_rfl)
    (case xC => exact ⟨by k_is, by k_is, by k_is, by k_is, by k_is, by k_is, by k_is, by k_is⟩); (case most => k_is)
    (case a_counts_more => k_is); (case F_counts_more => (refine' L2.fun_mk ?l ?c ?k; (case l => k_is); (case c => k_is); (case k => k_is))); (case k_counts_more => k_is)
    (case a_less_one => k_is); (case F_less_one => (refine' L2.fun_mk ?l ?c ?k; (case l => k_is); (case c => k_is); (case k => k_is))); (case k_less_one => k_is)
    (case a_is_number => k_is); (case F_is_number => (refine' L2.fun_mk ?l ?c ?k; (case l => k_is); (case c => k_is); (case k => k_is))); (case k_is_number => k_is)
    (case a_is_from => k_is); (case F_is_from => (refine' L2.fun_mk ?l ?c ?k; (case l => k_is); (case c => k_is); (case k => k_is))); (case k_is_from => k_is)
    (case a_has_next => k_is); (case F_has_next => (refine' L2.fun_mk ?l ?c ?k; (case l => k_is); (case c => k_is); (case k => k_is))); (case k_has_next => k_is)
    (case a_is_within => k_is); (case F_is_within => (refine' L2.fun_mk ?l ?c ?k; (case l => k_is); (case c => k_is); (case k => k_is))); (case k_is_within => k_is)
    (case a_moved => k_is); (case F_moved => (refine' L2.fun_mk ?l ?c ?k; (case l => k_is); (case c => k_is); (case k => k_is))); (case k_moved => k_is)
    (case a_law_exact => k_is); (case F_law_exact => (refine' L2.fun_mk ?l ?c ?k; (case l => k_is); (case c => k_is); (case k => k_is))); (case k_law_exact => k_is)
    (case a_law_row_off => k_is); (case F_law_row_off => (refine' L2.fun_mk ?l ?c ?k; (case l => k_is); (case c => k_is); (case k => k_is))); (case k_law_row_off => k_is)
    (case a_law_move => k_is); (case F_law_move => (refine' L2.fun_mk ?l ?c ?k; (case l => k_is); (case c => k_is); (case k => k_is))); (case k_law_move => k_is)
    (case a_law_row => k_is); (case F_law_row => (refine' L2.fun_mk ?l ?c ?k; (case l => k_is); (case c => k_is); (case k => k_is))); (case k_law_row => k_is)
    (case a_law_keeps => k_is); (case F_law_keeps => (refine' L2.fun_mk ?l ?c ?k; (case l => k_is); (case c => k_is); (case k => k_is))); (case k_law_keeps => k_is)
    (case a_all_states => k_is); (case F_all_states => (refine' L2.fun_mk ?l ?c ?k; (case l => k_is); (case c => k_is); (case k => k_is))); (case k_all_states => k_is)
    (case a_kept_states => k_is); (case F_kept_states => (refine' L2.fun_mk ?l ?c ?k; (case l => k_is); (case c => k_is); (case k => k_is))); (case k_kept_states => k_is)
    (case a_cheapest => k_is); (case F_cheapest => (refine' L2.fun_mk ?l ?c ?k; (case l => k_is); (case c => k_is); (case k => k_is))); (case k_cheapest => k_is)
    (case a_step_back => k_is); (case F_step_back => (refine' L2.fun_mk ?l ?c ?k; (case l => k_is); (case c => k_is); (case k => k_is))); (case k_step_back => k_is)
    (case a_is_kept => k_is); (case F_is_kept => (refine' L2.fun_mk ?l ?c ?k; (case l => k_is); (case c => k_is); (case k => k_is))); (case k_is_kept => k_is)
    (case a_is_drawing_of => k_is); (case F_is_drawing_of => (refine' L2.fun_mk ?l ?c ?k; (case l => k_is); (case c => k_is); (case k => k_is))); (case k_is_drawing_of => k_is)
    (case a_out_at => k_is); (case F_out_at => (refine' L2.fun_mk ?l ?c ?k; (case l => k_is); (case c => k_is); (case k => k_is))); (case k_out_at => k_is)
    (case a_tuple_of => k_is); (case F_tuple_of => (refine' L2.fun_mk ?l ?c ?k; (case l => k_is); (case c => k_is); (case k => k_is))); (case k_tuple_of => k_is)
    (case a_law_lists => k_is); (case F_law_lists => (refine' L2.fun_mk ?l ?c ?k; (case l => k_is); (case c => k_is); (case k => k_is))); (case k_law_lists => k_is)
    (case a_law_same => k_is); (case F_law_same => (refine' L2.fun_mk ?l ?c ?k; (case l => k_is); (case c => k_is); (case k => k_is))); (case k_law_same => k_is)
    (case a_fewest_moved => k_is); (case F_fewest_moved => (refine' L2.fun_mk ?l ?c ?k; (case l => k_is); (case c => k_is); (case k => k_is))); (case k_fewest_moved => k_is)
    (case a_is_least_moved => k_is); (case F_is_least_moved => (refine' L2.fun_mk ?l ?c ?k; (case l => k_is); (case c => k_is); (case k => k_is))); (case k_is_least_moved => k_is)
    (case a_stays_to => k_is); (case F_stays_to => (refine' L2.fun_mk ?l ?c ?k; (case l => k_is); (case c => k_is); (case k => k_is))); (case k_stays_to => k_is)
    (case a_out_by => k_is); (case F_out_by => (refine' L2.fun_mk ?l ?c ?k; (case l => k_is); (case c => k_is); (case k => k_is))); (case k_out_by => k_is)
    (case a_must_move => k_is); (case F_must_move => (refine' L2.fun_mk ?l ?c ?k; (case l => k_is); (case c => k_is); (case k => k_is))); (case k_must_move => k_is)
    (case a_can_stay => k_is); (case F_can_stay => (refine' L2.fun_mk ?l ?c ?k; (case l => k_is); (case c => k_is); (case k => k_is))); (case k_can_stay => k_is)
    (case a_least_moved => k_is); (case F_least_moved => (refine' L2.fun_mk ?l ?c ?k; (case l => k_is); (case c => k_is); (case k => k_is))); (case k_least_moved => k_is)
    (case a_law_drawings => k_is); (case F_law_drawings => (refine' L2.fun_mk ?l ?c ?k; (case l => k_is); (case c => k_is); (case k => k_is))); (case k_law_drawings => k_is)
    (case a_law_out => k_is); (case F_law_out => (refine' L2.fun_mk ?l ?c ?k; (case l => k_is); (case c => k_is); (case k => k_is))); (case k_law_out => k_is)
    (case a_law_is_one => k_is); (case F_law_is_one => (refine' L2.fun_mk ?l ?c ?k; (case l => k_is); (case c => k_is); (case k => k_is))); (case k_law_is_one => k_is)
    (case a_law_take => k_is); (case F_law_take => (refine' L2.fun_mk ?l ?c ?k; (case l => k_is); (case c => k_is); (case k => k_is))); (case k_law_take => k_is)
    (case a_law_of => k_is); (case F_law_of => (refine' L2.fun_mk ?l ?c ?k; (case l => k_is); (case c => k_is); (case k => k_is))); (case k_law_of => k_is)
    (case a_law_drawn_drawing => k_is); (case F_law_drawn_drawing => (refine' L2.fun_mk ?l ?c ?k; (case l => k_is); (case c => k_is); (case k => k_is))); (case k_law_drawn_drawing => k_is)
    (case a_law_drawn_limits => k_is); (case F_law_drawn_limits => (refine' L2.fun_mk ?l ?c ?k; (case l => k_is); (case c => k_is); (case k => k_is))); (case k_law_drawn_limits => k_is)
    (case a_law_drawn_layout => k_is); (case F_law_drawn_layout => (refine' L2.fun_mk ?l ?c ?k; (case l => k_is); (case c => k_is); (case k => k_is))); (case k_law_drawn_layout => k_is)
    (case a_law_box => k_is); (case F_law_box => (refine' L2.fun_mk ?l ?c ?k; (case l => k_is); (case c => k_is); (case k => k_is))); (case k_law_box => k_is)
    (case a_law_cells => k_is); (case F_law_cells => (refine' L2.fun_mk ?l ?c ?k; (case l => k_is); (case c => k_is); (case k => k_is))); (case k_law_cells => k_is)
    (case a_law_heard => k_is); (case F_law_heard => (refine' L2.fun_mk ?l ?c ?k; (case l => k_is); (case c => k_is); (case k => k_is))); (case k_law_heard => k_is)
    (case a_law_right => k_is); (case F_law_right => (refine' L2.fun_mk ?l ?c ?k; (case l => k_is); (case c => k_is); (case k => k_is))); (case k_law_right => k_is)
    (case a_law_by_hand_right => k_is); (case F_law_by_hand_right => (refine' L2.fun_mk ?l ?c ?k; (case l => k_is); (case c => k_is); (case k => k_is))); (case k_law_by_hand_right => k_is)
    (case a_law => k_is); (case F_law => (refine' L2.fun_mk ?l ?c ?k; (case l => k_is); (case c => k_is); (case k => k_is))); (case k_law => k_is)
    (case z_len => k_is); (case z_sum => k_is); (case z_abs => k_is); (case z_any => k_is); (case z_all => k_is); (case z_min => k_is); (case z_max => k_is); (case z_isinstance => k_is); (case z_sorted => k_is); (case z_int => k_is); (case z_tuple => k_is); (case z_list => k_is); (case z_dict => k_is); (case z_bool => k_is); (case z_str => k_is); (case z_ValueError => k_is); (case z_enumerate => k_is); (case z_zip => k_is); (case z_range => k_is)
