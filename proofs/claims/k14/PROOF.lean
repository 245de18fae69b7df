import PyProof.Rows.All
import HandS.ForMost
import HandS.Exc
import HandS.TupAny
import HandS.Flow
import HandS.WordsExc
import HandS.ForExc
import HandS.Style
import HandS.NoneIn
import PyProof.Rows.SeqMore
import HandS.Deep
import HandS.TupMul
import HandS.Text
import HandS.Dict
import HandS.TryOnly
import HandS.Codes
import HandS.Comp
import HandS.Small
import HandS.Ends
import HandS.EndBits
import HandS.IsInst
import PyProof.Rows.StrMeet
import KE.GoesEnum
import KE.GoesEnumKw
import KE.GoesZip
import HandS.SortKw
import HandS.Zip
import HandS.Defaults
import HandS.Rev
import HandS.More
import PyProof.ReprLen
import PyProof.P3Eq
import PyProof.FitsReplace
import PySem.Challenge.RW_pathbook_k14_legs_turned_and_shortened
set_option Elab.async false
set_option linter.all false
set_option maxRecDepth 100000
set_option maxHeartbeats 4000000
/-! L3: a layer of plain data over the hand layer: each expression, each statement tied to a Lean function over values. -/
namespace L3
open PySem PySem.Spec PyProof.Rows L2
abbrev Sl := L2.St
def Pfx (A A' : List Addr) : Prop := ∀ (k : Nat) (a : Addr), A[k]? = some a → A'[k]? = some a

/-! ### data -/
inductive D where
  | non | bl (b : Bool) | int (i : Int) | str (x : Str)
  | lst (xs : List D) | tup (xs : List D)
  | kl (xs : List D) | kt (xs : List D)
  | dK (ks : List Key) (xs : List D)
  | dT (ks : List (List Key)) (xs : List D)
  | fn (f : Addr)

mutual
/-- v reads as the datum d, by what stands in H -/
inductive Rp (K : PySem.W.Frag) (H : Hp) : V → D → Prop
  | non : Rp K H .non .non
  | bl (b : Bool) : Rp K H (.bl b) (.bl b)
  | int (i : Int) : Rp K H (.int i) (.int i)
  | str (x : Str) : Rp K H (.str x) (.str x)
  | lst {a : Addr} {vs : List V} {ds : List D} : H a = some (.lst vs) → Rps K H vs ds → Rp K H (.ref a) (.lst ds)
  | tup {a : Addr} {vs : List V} {ds : List D} : H a = some (.tup vs) → Rps K H vs ds → Rp K H (.ref a) (.tup ds)
  | kl {a : Addr} {vs : List V} {ds : List D} : SqL K H a vs → Rps K H vs ds → Rp K H (.ref a) (.kl ds)
  | kt {a : Addr} {vs : List V} {ds : List D} : SqT K H a vs → Rps K H vs ds → Rp K H (.ref a) (.kt ds)
  | dK {a : Addr} {ks : List Key} {vs : List V} {ds : List D} : Rd H a (.dK (ks.zip vs)) → ks.length = vs.length → Rps K H vs ds → Rp K H (.ref a) (.dK ks ds)
  | dT {a : Addr} {ks : List (List Key)} {vs : List V} {ds : List D} : Rd H a (.dT (ks.zip vs)) → ks.length = vs.length → Rps K H vs ds → Rp K H (.ref a) (.dT ks ds)
  | fn (f : Addr) : Rp K H (.ref f) (.fn f)
inductive Rps (K : PySem.W.Frag) (H : Hp) : List V → List D → Prop
  | nil : Rps K H [] []
  | cons {v : V} {vs : List V} {d : D} {ds : List D} : Rp K H v d → Rps K H vs ds → Rps K H (v :: vs) (d :: ds)
end

theorem Rd.mono {H H' : Hp} (h : Same H H') {a : Addr} {u : HO} (r : Rd H a u) : Rd H' a u := by
  rcases r with r | ⟨o, r⟩
  · exact .inl (h _ _ r)
  · exact .inr ⟨o, h _ _ r⟩
theorem sqT_mono {K : PySem.W.Frag} {H H' : Hp} {a : Addr} {xs : List V} (e : Same H H') (h : SqT K H a xs) : SqT K H' a xs := by
  rcases h with h | h
  · exact .inl (Rd.mono e h)
  · exact .inr h
theorem sqL_mono {K : PySem.W.Frag} {H H' : Hp} {a : Addr} {xs : List V} (e : Same H H') (h : SqL K H a xs) : SqL K H' a xs := by
  rcases h with h | h
  · exact .inl (Rd.mono e h)
  · exact .inr h
mutual
theorem Rp.mono {K : PySem.W.Frag} {H H' : Hp} (h : Same H H') : ∀ {v : V} {d : D}, Rp K H v d → Rp K H' v d
  | _, _, .non => .non
  | _, _, .bl b => .bl b
  | _, _, .int i => .int i
  | _, _, .str x => .str x
  | _, _, .lst q r => .lst (h _ _ q) (Rps.mono h r)
  | _, _, .tup q r => .tup (h _ _ q) (Rps.mono h r)
  | _, _, .kl q r => .kl (sqL_mono h q) (Rps.mono h r)
  | _, _, .kt q r => .kt (sqT_mono h q) (Rps.mono h r)
  | _, _, .dK q l r => .dK (Rd.mono h q) l (Rps.mono h r)
  | _, _, .dT q l r => .dT (Rd.mono h q) l (Rps.mono h r)
  | _, _, .fn f => .fn f
theorem Rps.mono {K : PySem.W.Frag} {H H' : Hp} (h : Same H H') : ∀ {vs : List V} {ds : List D}, Rps K H vs ds → Rps K H' vs ds
  | _, _, .nil => .nil
  | _, _, .cons q r => .cons (Rp.mono h q) (Rps.mono h r)
end
theorem Rps.length {K : PySem.W.Frag} {H : Hp} : ∀ {vs : List V} {ds : List D}, Rps K H vs ds → vs.length = ds.length
  | _, _, .nil => rfl
  | _, _, .cons _ r => congrArg (· + 1) (Rps.length r)
theorem Rps.append {K : PySem.W.Frag} {H : Hp} : ∀ {vs ws : List V} {ds es : List D}, Rps K H vs ds → Rps K H ws es → Rps K H (vs ++ ws) (ds ++ es)
  | _, _, _, _, .nil, s => s
  | _, _, _, _, .cons q r, s => .cons q (Rps.append r s)
theorem Rps.get {K : PySem.W.Frag} {H : Hp} : ∀ {vs : List V} {ds : List D} {i : Nat} {v : V}, Rps K H vs ds → vs[i]? = some v → ∃ d, ds[i]? = some d ∧ Rp K H v d
  | _, _, _, _, .nil, e => by simp at e
  | _, _, 0, _, .cons q _, e => by simp at e; subst e; exact ⟨_, rfl, q⟩
  | _, _, i + 1, v, .cons _ r, e => by
    obtain ⟨d, h1, h2⟩ := Rps.get (i := i) (v := v) r (by simpa using e)
    exact ⟨d, by simpa using h1, h2⟩
theorem Rps.get' {K : PySem.W.Frag} {H : Hp} : ∀ {vs : List V} {ds : List D} {i : Nat} {d : D}, Rps K H vs ds → ds[i]? = some d → ∃ v, vs[i]? = some v ∧ Rp K H v d
  | _, _, _, _, .nil, e => by simp at e
  | _, _, 0, _, .cons q _, e => by simp at e; subst e; exact ⟨_, rfl, q⟩
  | _, _, i + 1, d, .cons _ r, e => by
    obtain ⟨v, h1, h2⟩ := Rps.get' (i := i) (d := d) r (by simpa using e)
    exact ⟨v, by simpa using h1, h2⟩
theorem Rps.take {K : PySem.W.Frag} {H : Hp} : ∀ {vs : List V} {ds : List D} (n : Nat), Rps K H vs ds → Rps K H (vs.take n) (ds.take n)
  | _, _, 0, _ => .nil
  | _, _, _ + 1, .nil => .nil
  | _, _, n + 1, .cons q r => .cons q (Rps.take n r)
theorem Rps.drop {K : PySem.W.Frag} {H : Hp} : ∀ {vs : List V} {ds : List D} (n : Nat), Rps K H vs ds → Rps K H (vs.drop n) (ds.drop n)
  | _, _, 0, q => q
  | _, _, _ + 1, .nil => .nil
  | _, _, n + 1, .cons _ r => Rps.drop n r
theorem Rps.reverse {K : PySem.W.Frag} {H : Hp} : ∀ {vs : List V} {ds : List D}, Rps K H vs ds → Rps K H vs.reverse ds.reverse
  | _, _, .nil => .nil
  | _, _, .cons q r => by
    rw [List.reverse_cons, List.reverse_cons]
    exact (Rps.reverse r).append (.cons q .nil)

/-! ### values of slots: data, owned nodes, cells -/
/-- what an owned object is -/
inductive Nd where
  | lst | dK (ks : List Key) | dT (ks : List (List Key)) | ins (C dx : Addr) (ks : List Str)
def Nd.ho : Nd → List V → HO
  | .lst, vs => .lst vs
  | .dK ks, vs => .dK (ks.zip vs)
  | .dT ks, vs => .dT (ks.zip vs)
  | .ins C dx ks, vs => .ins C dx (ks.zip vs)
/-- as many keys as values; each key once -/
def Nd.len : Nd → Nat → Prop
  | .lst, _ => True
  | .dK ks, n => ks.length = n
  | .dT ks, n => ks.length = n
  | .ins _ _ ks, n => ks.length = n
def Nd.uniq : Nd → Prop
  | .lst => True
  | .dK ks => ks.Nodup
  | .dT ks => ks.Nodup
  | .ins _ _ ks => ks.Nodup
def Nd.fits (n : Nd) (m : Nat) : Prop := n.len m ∧ n.uniq

inductive SV where
  | dat (d : D) | node (n : Nd) (xs : List SV) | cell (k : Nat)
abbrev SV.own (xs : List SV) : SV := .node .lst xs

mutual
/-- as a datum, where it is one -/
def SV.peek : SV → Option D
  | .dat d => some d
  | .node .lst xs => (peeks xs).map D.lst
  | .node (.dK ks) xs => (peeks xs).map (D.dK ks)
  | .node (.dT ks) xs => (peeks xs).map (D.dT ks)
  | .node (.ins _ _ _) _ => none
  | .cell _ => none
def peeks : List SV → Option (List D)
  | [] => some []
  | x :: r => (x.peek).bind fun d => (peeks r).map fun ds => d :: ds
end

mutual
/-- v is the value x: data by the frozen part Φ, owned nodes at addresses of their own (F, all of them), cells by their number -/
inductive RS (K : PySem.W.Frag) (Φ H : Hp) (A : List Addr) : V → SV → List Addr → Prop
  | dat {v : V} {d : D} : Rp K Φ v d → RS K Φ H A v (.dat d) []
  | node {a : Addr} {n : Nd} {vs : List V} {xs : List SV} {F : List Addr} : H a = some (n.ho vs) → n.fits vs.length → Φ a = none → RSs K Φ H A vs xs F → RS K Φ H A (.ref a) (.node n xs) (a :: F)
  | cell {k : Nat} {a : Addr} : A[k]? = some a → RS K Φ H A (.ref a) (.cell k) []
inductive RSs (K : PySem.W.Frag) (Φ H : Hp) (A : List Addr) : List V → List SV → List Addr → Prop
  | nil : RSs K Φ H A [] [] []
  | cons {v : V} {vs : List V} {x : SV} {xs : List SV} {F G : List Addr} : RS K Φ H A v x F → RSs K Φ H A vs xs G → RSs K Φ H A (v :: vs) (x :: xs) (F ++ G)
end

mutual
theorem RS.frame {K : PySem.W.Frag} {Φ H Φ' H' : Hp} {A A' : List Addr} (le : Same Φ Φ') (hA : Pfx A A') :
    ∀ {v : V} {x : SV} {F : List Addr}, RS K Φ H A v x F → (∀ b ∈ F, H' b = H b) → (∀ b ∈ F, Φ' b = none) → RS K Φ' H' A' v x F
  | _, _, _, .dat r, _, _ => .dat (r.mono le)
  | _, _, _, .node (a := a) e f p r, h1, h2 =>
    .node ((h1 a (List.mem_cons_self ..)).trans e) f (h2 a (List.mem_cons_self ..)) (RSs.frame le hA r (fun b hb => h1 b (List.mem_cons_of_mem _ hb)) fun b hb => h2 b (List.mem_cons_of_mem _ hb))
  | _, _, _, .cell e, _, _ => .cell (hA _ _ e)
theorem RSs.frame {K : PySem.W.Frag} {Φ H Φ' H' : Hp} {A A' : List Addr} (le : Same Φ Φ') (hA : Pfx A A') :
    ∀ {vs : List V} {xs : List SV} {F : List Addr}, RSs K Φ H A vs xs F → (∀ b ∈ F, H' b = H b) → (∀ b ∈ F, Φ' b = none) → RSs K Φ' H' A' vs xs F
  | _, _, _, .nil, _, _ => .nil
  | _, _, _, .cons q r, h1, h2 => .cons (RS.frame le hA q (fun b hb => h1 b (List.mem_append_left _ hb)) fun b hb => h2 b (List.mem_append_left _ hb))
      (RSs.frame le hA r (fun b hb => h1 b (List.mem_append_right _ hb)) fun b hb => h2 b (List.mem_append_right _ hb))
end
mutual
theorem RS.there {K : PySem.W.Frag} {Φ H : Hp} {A : List Addr} : ∀ {v : V} {x : SV} {F : List Addr}, RS K Φ H A v x F → ∀ b ∈ F, H b ≠ none ∧ Φ b = none
  | _, _, _, .dat r, b, hb => by simp at hb
  | _, _, _, .node (a := a) e f p r, b, hb => by
    rcases List.mem_cons.mp hb with rfl | hb
    · exact ⟨by rw [e]; simp, p⟩
    · exact RSs.there r b hb
  | _, _, _, .cell e, b, hb => by simp at hb
theorem RSs.there {K : PySem.W.Frag} {Φ H : Hp} {A : List Addr} : ∀ {vs : List V} {xs : List SV} {F : List Addr}, RSs K Φ H A vs xs F → ∀ b ∈ F, H b ≠ none ∧ Φ b = none
  | _, _, _, .nil, b, hb => by simp at hb
  | _, _, _, .cons q r, b, hb => by
    rcases List.mem_append.mp hb with hb | hb
    · exact RS.there q b hb
    · exact RSs.there r b hb
end
theorem RSs.length {K : PySem.W.Frag} {Φ H : Hp} {A : List Addr} : ∀ {vs : List V} {xs : List SV} {F : List Addr}, RSs K Φ H A vs xs F → vs.length = xs.length
  | _, _, _, .nil => rfl
  | _, _, _, .cons _ r => congrArg (· + 1) r.length

theorem peeks_length : ∀ {xs : List SV} {ds : List D}, peeks xs = some ds → xs.length = ds.length
  | [], ds, h => by
    have h : (some [] : Option (List D)) = some ds := by rw [← h]; rfl
    cases h; rfl
  | x :: r, ds, h => by
    unfold peeks at h
    cases e : x.peek with
    | none => rw [e] at h; cases h
    | some d =>
      rw [e] at h
      cases e2 : peeks r with
      | none => rw [e2] at h; cases h
      | some es =>
        rw [e2] at h
        cases h
        exact congrArg (· + 1) (peeks_length e2)

mutual
/-- read as it stands in a heap that has the frozen part -/
theorem RS.rp {K : PySem.W.Frag} {Φ H : Hp} {A : List Addr} (le : Same Φ H) : ∀ {v : V} {x : SV} {F : List Addr} {d : D}, RS K Φ H A v x F → x.peek = some d → Rp K H v d
  | _, _, _, _, .dat r, h => by cases h; exact r.mono le
  | _, _, _, d, .node (a := a) (n := n) (vs := vs) (xs := xs) e f p r, h => by
    cases n with
    | lst =>
      have h : (peeks xs).map D.lst = some d := by rw [← h]; rfl
      cases e2 : peeks xs with
      | none => rw [e2] at h; cases h
      | some ds =>
        rw [e2] at h; cases h
        exact .lst e (RSs.rp le r e2)
    | dK ks =>
      have h : (peeks xs).map (D.dK ks) = some d := by rw [← h]; rfl
      cases e2 : peeks xs with
      | none => rw [e2] at h; cases h
      | some ds =>
        rw [e2] at h; cases h
        exact .dK (.inl e) f.1 (RSs.rp le r e2)
    | dT ks =>
      have h : (peeks xs).map (D.dT ks) = some d := by rw [← h]; rfl
      cases e2 : peeks xs with
      | none => rw [e2] at h; cases h
      | some ds =>
        rw [e2] at h; cases h
        exact .dT (.inl e) f.1 (RSs.rp le r e2)
    | ins C dx ks =>
      have h : (none : Option D) = some d := by rw [← h]; rfl
      cases h
  | _, _, _, _, .cell e, h => by cases h
theorem RSs.rp {K : PySem.W.Frag} {Φ H : Hp} {A : List Addr} (le : Same Φ H) : ∀ {vs : List V} {xs : List SV} {F : List Addr} {ds : List D}, RSs K Φ H A vs xs F → peeks xs = some ds → Rps K H vs ds
  | _, _, _, ds, .nil, h => by
    have h : (some [] : Option (List D)) = some ds := by rw [← h]; rfl
    cases h; exact .nil
  | _, _, _, ds, .cons (x := x) (xs := xs) q r, h => by
    have h : (x.peek).bind (fun d => (peeks xs).map fun ds => d :: ds) = some ds := by rw [← h]; rfl
    cases e : x.peek with
    | none => rw [e] at h; cases h
    | some d =>
      cases e2 : peeks xs with
      | none => rw [e, e2] at h; cases h
      | some es =>
        rw [e, e2] at h; cases h
        exact .cons (RS.rp le q e) (RSs.rp le r e2)
end

/-- the frozen part with what stands at F -/
def frz (Φ H : Hp) (F : List Addr) : Hp := fun b => if b ∈ F then H b else Φ b
theorem frz_in {Φ H : Hp} {F : List Addr} {b : Addr} (h : b ∈ F) : frz Φ H F b = H b := if_pos h
theorem frz_out {Φ H : Hp} {F : List Addr} {b : Addr} (h : b ∉ F) : frz Φ H F b = Φ b := if_neg h
theorem frz_le {Φ H : Hp} {F : List Addr} (h : ∀ b ∈ F, Φ b = none) : Same Φ (frz Φ H F) := fun b o e => by
  by_cases hb : b ∈ F
  · rw [h b hb] at e; cases e
  · rw [frz_out hb]; exact e
theorem frz_sub {Φ H : Hp} {F : List Addr} (le : Same Φ H) : Same (frz Φ H F) H := fun b o e => by
  by_cases hb : b ∈ F
  · rw [frz_in hb] at e; exact e
  · rw [frz_out hb] at e; exact le _ _ e
theorem frz_nil {Φ H : Hp} : frz Φ H [] = Φ := by funext b; exact if_neg (by simp)

mutual
/-- what is owned, frozen, is a datum -/
theorem RS.freeze {K : PySem.W.Frag} {Φ H : Hp} {A : List Addr} {G : List Addr} (hG : ∀ b ∈ G, Φ b = none) : ∀ {v : V} {x : SV} {F : List Addr} {d : D}, RS K Φ H A v x F → x.peek = some d → (∀ b ∈ F, b ∈ G) → Rp K (frz Φ H G) v d
  | _, _, _, _, .dat r, h, _ => by cases h; exact r.mono (frz_le hG)
  | _, _, _, d, .node (a := a) (n := n) (vs := vs) (xs := xs) e f p r, h, hF => by
    have ea : frz Φ H G a = some (n.ho vs) := by rw [frz_in (hF a (List.mem_cons_self ..))]; exact e
    have hF' := fun b hb => hF b (List.mem_cons_of_mem _ hb)
    cases n with
    | lst =>
      have h : (peeks xs).map D.lst = some d := by rw [← h]; rfl
      cases e2 : peeks xs with
      | none => rw [e2] at h; cases h
      | some ds =>
        rw [e2] at h; cases h
        exact .lst ea (RSs.freeze hG r e2 hF')
    | dK ks =>
      have h : (peeks xs).map (D.dK ks) = some d := by rw [← h]; rfl
      cases e2 : peeks xs with
      | none => rw [e2] at h; cases h
      | some ds =>
        rw [e2] at h; cases h
        exact .dK (.inl ea) f.1 (RSs.freeze hG r e2 hF')
    | dT ks =>
      have h : (peeks xs).map (D.dT ks) = some d := by rw [← h]; rfl
      cases e2 : peeks xs with
      | none => rw [e2] at h; cases h
      | some ds =>
        rw [e2] at h; cases h
        exact .dT (.inl ea) f.1 (RSs.freeze hG r e2 hF')
    | ins C dx ks =>
      have h : (none : Option D) = some d := by rw [← h]; rfl
      cases h
  | _, _, _, _, .cell e, h, _ => by cases h
theorem RSs.freeze {K : PySem.W.Frag} {Φ H : Hp} {A : List Addr} {G : List Addr} (hG : ∀ b ∈ G, Φ b = none) : ∀ {vs : List V} {xs : List SV} {F : List Addr} {ds : List D}, RSs K Φ H A vs xs F → peeks xs = some ds → (∀ b ∈ F, b ∈ G) → Rps K (frz Φ H G) vs ds
  | _, _, _, ds, .nil, h, _ => by
    have h : (some [] : Option (List D)) = some ds := by rw [← h]; rfl
    cases h; exact .nil
  | _, _, _, ds, .cons (x := x) (xs := xs) q r, h, hF => by
    have h : (x.peek).bind (fun d => (peeks xs).map fun ds => d :: ds) = some ds := by rw [← h]; rfl
    cases e : x.peek with
    | none => rw [e] at h; cases h
    | some d =>
      cases e2 : peeks xs with
      | none => rw [e, e2] at h; cases h
      | some es =>
        rw [e, e2] at h; cases h
        exact .cons (RS.freeze hG q e fun b hb => hF b (List.mem_append_left _ hb)) (RSs.freeze hG r e2 fun b hb => hF b (List.mem_append_right _ hb))
end

/-! ### the state -/
/-- slots, cells -/
structure Sto where
  ρ : List (Option SV)
  μ : List SV

inductive RO (K : PySem.W.Frag) (Φ H : Hp) (A : List Addr) : Sl → List (Option SV) → List Addr → Prop
  | nil : RO K Φ H A [] [] []
  | non {o : Option V} {σ : Sl} {ρ : List (Option SV)} {F : List Addr} : RO K Φ H A σ ρ F → RO K Φ H A (o :: σ) (none :: ρ) F
  | som {v : V} {σ : Sl} {x : SV} {ρ : List (Option SV)} {F G : List Addr} : RS K Φ H A v x F → RO K Φ H A σ ρ G → RO K Φ H A (some v :: σ) (some x :: ρ) (F ++ G)
/-- the cells: each a node at its own address -/
inductive RC (K : PySem.W.Frag) (Φ H : Hp) (A : List Addr) : List Addr → List SV → List Addr → Prop
  | nil : RC K Φ H A [] [] []
  | cons {a : Addr} {B : List Addr} {x : SV} {μ : List SV} {F G : List Addr} : RS K Φ H A (.ref a) x (a :: F) → RC K Φ H A B μ G → RC K Φ H A (a :: B) (x :: μ) ((a :: F) ++ G)

theorem RO.frame {K : PySem.W.Frag} {Φ H Φ' H' : Hp} {A A' : List Addr} (le : Same Φ Φ') (hA : Pfx A A') :
    ∀ {σ : Sl} {ρ : List (Option SV)} {F : List Addr}, RO K Φ H A σ ρ F → (∀ b ∈ F, H' b = H b) → (∀ b ∈ F, Φ' b = none) → RO K Φ' H' A' σ ρ F
  | _, _, _, .nil, _, _ => .nil
  | _, _, _, .non r, h1, h2 => .non (r.frame le hA h1 h2)
  | _, _, _, .som q r, h1, h2 => .som (q.frame le hA (fun b hb => h1 b (List.mem_append_left _ hb)) fun b hb => h2 b (List.mem_append_left _ hb))
      (r.frame le hA (fun b hb => h1 b (List.mem_append_right _ hb)) fun b hb => h2 b (List.mem_append_right _ hb))
theorem RC.frame {K : PySem.W.Frag} {Φ H Φ' H' : Hp} {A A' : List Addr} (le : Same Φ Φ') (hA : Pfx A A') :
    ∀ {B : List Addr} {μ : List SV} {F : List Addr}, RC K Φ H A B μ F → (∀ b ∈ F, H' b = H b) → (∀ b ∈ F, Φ' b = none) → RC K Φ' H' A' B μ F
  | _, _, _, .nil, _, _ => .nil
  | _, _, _, .cons q r, h1, h2 => .cons (q.frame le hA (fun b hb => h1 b (List.mem_append_left _ hb)) fun b hb => h2 b (List.mem_append_left _ hb))
      (r.frame le hA (fun b hb => h1 b (List.mem_append_right _ hb)) fun b hb => h2 b (List.mem_append_right _ hb))
theorem RO.there {K : PySem.W.Frag} {Φ H : Hp} {A : List Addr} : ∀ {σ : Sl} {ρ : List (Option SV)} {F : List Addr}, RO K Φ H A σ ρ F → ∀ b ∈ F, H b ≠ none ∧ Φ b = none
  | _, _, _, .nil, b, hb => by simp at hb
  | _, _, _, .non r, b, hb => r.there b hb
  | _, _, _, .som q r, b, hb => by
    rcases List.mem_append.mp hb with hb | hb
    · exact q.there b hb
    · exact r.there b hb
theorem RC.there {K : PySem.W.Frag} {Φ H : Hp} {A : List Addr} : ∀ {B : List Addr} {μ : List SV} {F : List Addr}, RC K Φ H A B μ F → ∀ b ∈ F, H b ≠ none ∧ Φ b = none
  | _, _, _, .nil, b, hb => by simp at hb
  | _, _, _, .cons q r, b, hb => by
    rcases List.mem_append.mp hb with hb | hb
    · exact q.there b hb
    · exact r.there b hb
theorem RO.length {K : PySem.W.Frag} {Φ H : Hp} {A : List Addr} : ∀ {σ : Sl} {ρ : List (Option SV)} {F : List Addr}, RO K Φ H A σ ρ F → σ.length = ρ.length
  | _, _, _, .nil => rfl
  | _, _, _, .non r => congrArg (· + 1) r.length
  | _, _, _, .som _ r => congrArg (· + 1) r.length

/-- a slot, and what another value there makes of it -/
theorem RO.at {K : PySem.W.Frag} {Φ H : Hp} {A : List Addr} : ∀ {σ : Sl} {ρ : List (Option SV)} {F : List Addr} {i : Nat} {x : SV}, RO K Φ H A σ ρ F → ρ[i]? = some (some x) →
    ∃ v F1 Fi F2, σ[i]? = some (some v) ∧ F = F1 ++ (Fi ++ F2) ∧ RS K Φ H A v x Fi ∧
      ∀ {Φ' H' : Hp} {A' : List Addr}, Same Φ Φ' → Pfx A A' → (∀ b ∈ F1 ++ F2, H' b = H b) → (∀ b ∈ F1 ++ F2, Φ' b = none) →
        (∀ {w : V} {y : SV} {G : List Addr}, RS K Φ' H' A' w y G → RO K Φ' H' A' (σ.set i (some w)) (ρ.set i (some y)) (F1 ++ (G ++ F2))) ∧ (∀ o, RO K Φ' H' A' (σ.set i o) (ρ.set i none) (F1 ++ F2))
  | _, _, _, _, _, .nil, e => by simp at e
  | _, _, _, 0, x, .non r, e => by simp at e
  | _, _, _, 0, x, .som (v := v) (F := F) (G := G) q r, e => by
    simp at e; subst e
    refine ⟨v, [], F, G, rfl, rfl, q, fun le hA h1 h2 => ⟨fun y => ?_, fun o => ?_⟩⟩
    · rw [List.nil_append]; exact .som y (r.frame le hA h1 h2)
    · exact .non (r.frame le hA h1 h2)
  | _, _, _, i + 1, x, .non (o := o) r, e => by
    obtain ⟨v, F1, Fi, F2, e1, e2, q, up⟩ := RO.at (i := i) (x := x) r (by simpa using e)
    refine ⟨v, F1, Fi, F2, by simpa using e1, e2, q, fun le hA h1 h2 => ?_⟩
    obtain ⟨u1, u2⟩ := up le hA h1 h2
    exact ⟨fun y => .non (u1 y), fun o' => .non (u2 o')⟩
  | _, _, _, i + 1, x, .som (v := v0) (F := F0) (G := G0) q0 r, e => by
    obtain ⟨v, F1, Fi, F2, e1, e2, q, up⟩ := RO.at (i := i) (x := x) r (by simpa using e)
    refine ⟨v, F0 ++ F1, Fi, F2, by simpa using e1, by rw [e2, List.append_assoc], q, fun le hA h1 h2 => ?_⟩
    have a1 : ∀ b ∈ F0, b ∈ F0 ++ F1 ++ F2 := fun b hb => List.mem_append_left _ (List.mem_append_left _ hb)
    have a2 : ∀ b ∈ F1 ++ F2, b ∈ F0 ++ F1 ++ F2 := fun b hb => by rw [List.append_assoc]; exact List.mem_append_right _ hb
    obtain ⟨u1, u2⟩ := up le hA (fun b hb => h1 b (a2 b hb)) (fun b hb => h2 b (a2 b hb))
    have q' := q0.frame le hA (fun b hb => h1 b (a1 b hb)) (fun b hb => h2 b (a1 b hb))
    refine ⟨fun {w y G} z => ?_, fun o' => ?_⟩
    · rw [List.append_assoc]; exact .som q' (u1 z)
    · rw [List.append_assoc]; exact .som q' (u2 o')
/-- any slot, filled anew: what it owned is dropped -/
theorem RO.put {K : PySem.W.Frag} {Φ H : Hp} {A : List Addr} : ∀ {σ : Sl} {ρ : List (Option SV)} {F : List Addr} {i : Nat}, RO K Φ H A σ ρ F → i < ρ.length → ∀ {w : V} {y : SV} {G : List Addr}, RS K Φ H A w y G →
    ∃ F1 F2, (∃ Fi, F = F1 ++ (Fi ++ F2)) ∧ RO K Φ H A (σ.set i (some w)) (ρ.set i (some y)) (F1 ++ (G ++ F2))
  | _, _, _, _, .nil, e => by simp at e
  | _, _, _, 0, .non (F := F) r, e => fun q => ⟨[], F, ⟨[], rfl⟩, by rw [List.nil_append]; exact .som q r⟩
  | _, _, _, 0, .som (F := F) (G := G) _ r, e => fun q => ⟨[], G, ⟨F, rfl⟩, by rw [List.nil_append]; exact .som q r⟩
  | _, _, _, i + 1, .non r, e => fun q => by
    obtain ⟨F1, F2, ⟨Fi, e1⟩, z⟩ := RO.put (i := i) r (by simpa using e) q
    exact ⟨F1, F2, ⟨Fi, e1⟩, .non z⟩
  | _, _, _, i + 1, .som (F := F0) q0 r, e => fun q => by
    obtain ⟨F1, F2, ⟨Fi, e1⟩, z⟩ := RO.put (i := i) r (by simpa using e) q
    refine ⟨F0 ++ F1, F2, ⟨Fi, by rw [e1, List.append_assoc]⟩, ?_⟩
    rw [List.append_assoc]
    exact .som q0 z
theorem RC.at {K : PySem.W.Frag} {Φ H : Hp} {A : List Addr} : ∀ {B : List Addr} {μ : List SV} {F : List Addr} {i : Nat} {x : SV}, RC K Φ H A B μ F → μ[i]? = some x →
    ∃ a F1 Fi F2, B[i]? = some a ∧ F = F1 ++ ((a :: Fi) ++ F2) ∧ RS K Φ H A (.ref a) x (a :: Fi) ∧
      ∀ {Φ' H' : Hp} {A' : List Addr}, Same Φ Φ' → Pfx A A' → (∀ b ∈ F1 ++ F2, H' b = H b) → (∀ b ∈ F1 ++ F2, Φ' b = none) →
        ∀ {y : SV} {G : List Addr}, RS K Φ' H' A' (.ref a) y (a :: G) → RC K Φ' H' A' B (μ.set i y) (F1 ++ ((a :: G) ++ F2))
  | _, _, _, _, _, .nil, e => by simp at e
  | _, _, _, 0, x, .cons (a := a) (F := F) (G := G) q r, e => by
    simp at e; subst e
    exact ⟨a, [], F, G, rfl, rfl, q, fun le hA h1 h2 => fun y => .cons y (r.frame le hA h1 h2)⟩
  | _, _, _, i + 1, x, .cons (a := a0) (F := F0) (G := G0) q0 r, e => by
    obtain ⟨a, F1, Fi, F2, e1, e2, q, up⟩ := RC.at (i := i) (x := x) r (by simpa using e)
    refine ⟨a, (a0 :: F0) ++ F1, Fi, F2, by simpa using e1, by rw [e2, List.append_assoc], q, fun le hA h1 h2 => ?_⟩
    have m1 : ∀ b ∈ a0 :: F0, b ∈ ((a0 :: F0) ++ F1) ++ F2 := fun b hb => List.mem_append_left _ (List.mem_append_left _ hb)
    have m2 : ∀ b ∈ F1 ++ F2, b ∈ ((a0 :: F0) ++ F1) ++ F2 := fun b hb => by rw [List.append_assoc]; exact List.mem_append_right _ hb
    intro y G z
    rw [List.append_assoc]
    exact .cons (q0.frame le hA (fun b hb => h1 b (m1 b hb)) (fun b hb => h2 b (m1 b hb))) (up le hA (fun b hb => h1 b (m2 b hb)) (fun b hb => h2 b (m2 b hb)) z)
theorem RC.snoc {K : PySem.W.Frag} {Φ H : Hp} {A : List Addr} {a : Addr} {x : SV} {Fa : List Addr} (q : RS K Φ H A (.ref a) x (a :: Fa)) : ∀ {B : List Addr} {μ : List SV} {F : List Addr}, RC K Φ H A B μ F → RC K Φ H A (B ++ [a]) (μ ++ [x]) (F ++ (a :: Fa))
  | _, _, _, .nil => by
    have := RC.cons q (.nil (K := K) (Φ := Φ) (H := H) (A := A))
    simpa using this
  | _, _, _, .cons q0 r => by
    rw [List.append_assoc]
    exact .cons q0 (RC.snoc q r)
theorem RC.length {K : PySem.W.Frag} {Φ H : Hp} {A : List Addr} : ∀ {B : List Addr} {μ : List SV} {F : List Addr}, RC K Φ H A B μ F → B.length = μ.length
  | _, _, _, .nil => rfl
  | _, _, _, .cons _ r => congrArg (· + 1) r.length

/-- the state stands: slots (F: what they own) and cells (G), all owned addresses apart -/
structure Stands (K : PySem.W.Frag) (S : Sto) (σ : Sl) (H Φ : Hp) (A F G : List Addr) : Prop where
  le : Same Φ H
  ro : RO K Φ H A σ S.ρ F
  rc : RC K Φ H A A S.μ G
  nd : (F ++ G).Nodup

/-- an expression's step: what the cells don't own stays; what is frozen grows by what was owned or is new -/
structure Step (F G : List Addr) (H Φ : Hp) (A : List Addr) (F' G' : List Addr) (H' Φ' : Hp) (A' : List Addr) : Prop where
  keep : ∀ b o, H b = some o → b ∉ G → H' b = some o
  le : Same Φ Φ'
  grow : ∀ b o, Φ' b = some o → Φ b = some o ∨ b ∈ F ∨ b ∈ G ∨ H b = none
  ownF : ∀ b ∈ F', b ∈ F ∨ b ∈ G ∨ H b = none
  ownG : ∀ b ∈ G', b ∈ G ∨ H b = none
  live : ∀ b, H b ≠ none → H' b ≠ none
  cells : Pfx A A'
/-- a statement's: the slots' own may change, too -/
structure Run (F G : List Addr) (H Φ : Hp) (A : List Addr) (F' G' : List Addr) (H' Φ' : Hp) (A' : List Addr) : Prop where
  keep : ∀ b o, H b = some o → b ∉ F → b ∉ G → H' b = some o
  le : Same Φ Φ'
  grow : ∀ b o, Φ' b = some o → Φ b = some o ∨ b ∈ F ∨ b ∈ G ∨ H b = none
  own : ∀ b, b ∈ F' ∨ b ∈ G' → b ∈ F ∨ b ∈ G ∨ H b = none
  live : ∀ b, H b ≠ none → H' b ≠ none
  cells : Pfx A A'
section
variable {F F1 F2 G G1 G2 A A1 A2 T T1 : List Addr} {H H1 H2 Φ Φ1 Φ2 : Hp}
theorem Pfx.refl : Pfx A A := fun _ _ e => e
theorem Pfx.trans (a : Pfx A A1) (b : Pfx A1 A2) : Pfx A A2 := fun k x e => b k x (a k x e)
theorem Step.refl : Step F G H Φ A F G H Φ A := ⟨fun _ _ e _ => e, fun _ _ e => e, fun _ _ e => .inl e, fun _ e => .inl e, fun _ e => .inl e, fun _ e => e, fun _ _ e => e⟩
theorem Step.trans (a : Step F G H Φ A (T ++ F1) G1 H1 Φ1 A1) (b : Step F1 G1 H1 Φ1 A1 (T1 ++ F2) G2 H2 Φ2 A2) : Step F G H Φ A (T ++ (T1 ++ F2)) G2 H2 Φ2 A2 where
  keep := fun c o e hn => by
    refine b.keep c o (a.keep c o e hn) fun hc => ?_
    rcases a.ownG c hc with h | h
    · exact hn h
    · rw [h] at e; cases e
  le := a.le.trans b.le
  grow := fun c o e => by
    rcases b.grow c o e with h | h | h | h
    · exact a.grow c o h
    · exact .inr (a.ownF c (List.mem_append_right _ h))
    · exact .inr (.inr (a.ownG c h))
    · by_cases hc : H c = none
      · exact .inr (.inr (.inr hc))
      · exact absurd h (a.live c hc)
  ownF := fun c hc => by
    rcases List.mem_append.mp hc with hc | hc
    · exact a.ownF c (List.mem_append_left _ hc)
    · rcases b.ownF c hc with h | h | h
      · exact a.ownF c (List.mem_append_right _ h)
      · exact .inr (a.ownG c h)
      · by_cases hc : H c = none
        · exact .inr (.inr hc)
        · exact absurd h (a.live c hc)
  ownG := fun c hc => by
    rcases b.ownG c hc with h | h
    · exact a.ownG c h
    · by_cases hc : H c = none
      · exact .inr hc
      · exact absurd h (a.live c hc)
  live := fun c hc => b.live c (a.live c hc)
  cells := a.cells.trans b.cells
theorem Step.trans0 (a : Step F G H Φ A F1 G1 H1 Φ1 A1) (b : Step F1 G1 H1 Φ1 A1 F2 G2 H2 Φ2 A2) : Step F G H Φ A F2 G2 H2 Φ2 A2 := Step.trans (T := []) (T1 := []) a b
theorem Step.run (a : Step F G H Φ A F1 G1 H1 Φ1 A1) : Run F G H Φ A F1 G1 H1 Φ1 A1 :=
  ⟨fun b o e _ hn => a.keep b o e hn, a.le, a.grow, fun b hb => hb.elim (a.ownF b) fun h => .inr (a.ownG b h), a.live, a.cells⟩
theorem Run.trans (a : Run F G H Φ A F1 G1 H1 Φ1 A1) (b : Run F1 G1 H1 Φ1 A1 F2 G2 H2 Φ2 A2) : Run F G H Φ A F2 G2 H2 Φ2 A2 where
  keep := fun c o e hf hg => by
    have z : ∀ {P : Prop}, (c ∈ F ∨ c ∈ G ∨ H c = none) → P := fun h => by
      rcases h with h | h | h
      · exact absurd h hf
      · exact absurd h hg
      · rw [h] at e; cases e
    exact b.keep c o (a.keep c o e hf hg) (fun hc => z (a.own c (.inl hc))) fun hc => z (a.own c (.inr hc))
  le := a.le.trans b.le
  grow := fun c o e => by
    rcases b.grow c o e with h | h | h | h
    · exact a.grow c o h
    · exact .inr (a.own c (.inl h))
    · exact .inr (a.own c (.inr h))
    · by_cases hc : H c = none
      · exact .inr (.inr (.inr hc))
      · exact absurd h (a.live c hc)
  own := fun c hc => by
    rcases b.own c hc with h | h | h
    · exact a.own c (.inl h)
    · exact a.own c (.inr h)
    · by_cases hc : H c = none
      · exact .inr (.inr hc)
      · exact absurd h (a.live c hc)
  live := fun c hc => b.live c (a.live c hc)
  cells := a.cells.trans b.cells
theorem Run.refl : Run F G H Φ A F G H Φ A := Step.refl.run
theorem Run.sub {F' G' : List Addr} (a : Run F G H Φ A F1 G1 H1 Φ1 A1) (h : ∀ b, b ∈ F' ∨ b ∈ G' → b ∈ F1 ∨ b ∈ G1) : Run F G H Φ A F' G' H1 Φ1 A1 := ⟨a.keep, a.le, a.grow, fun b hb => a.own b (h b hb), a.live, a.cells⟩
/-- what was told ahead and is owned apart stays through a step -/
theorem Step.same (a : Step F1 G1 H1 Φ1 A1 F2 G2 H2 Φ2 A2) (hT : ∀ b ∈ T, H1 b ≠ none ∧ Φ1 b = none) (nd : (T ++ (F1 ++ G1)).Nodup) : (∀ b ∈ T, H2 b = H1 b) ∧ (∀ b ∈ T, Φ2 b = none) := by
  have no : ∀ b ∈ T, b ∉ F1 ∧ b ∉ G1 := fun b hb => by
    have := (List.nodup_append.mp nd).2.2 b hb
    exact ⟨fun h => this b (List.mem_append_left _ h) rfl, fun h => this b (List.mem_append_right _ h) rfl⟩
  refine ⟨fun b hb => ?_, fun b hb => ?_⟩
  · cases e : H1 b with
    | none => exact absurd e (hT b hb).1
    | some o => exact a.keep b o e (no b hb).2
  · cases e : Φ2 b with
    | none => rfl
    | some o =>
      rcases a.grow b o e with h | h | h | h
      · rw [(hT b hb).2] at h; cases h
      · exact absurd h (no b hb).1
      · exact absurd h (no b hb).2
      · exact absurd h (hT b hb).1
theorem Step.apart (a : Step F1 G1 H1 Φ1 A1 F2 G2 H2 Φ2 A2) (hT : ∀ b ∈ T, H1 b ≠ none) (nd : (T ++ (F1 ++ G1)).Nodup) (nd2 : (F2 ++ G2).Nodup) : (T ++ (F2 ++ G2)).Nodup := by
  refine List.nodup_append.mpr ⟨(List.nodup_append.mp nd).1, nd2, fun x hx y hy e => ?_⟩
  subst e
  have n1 := (List.nodup_append.mp nd).2.2 x hx
  have no : x ∉ F1 ∧ x ∉ G1 := ⟨fun h => n1 x (List.mem_append_left _ h) rfl, fun h => n1 x (List.mem_append_right _ h) rfl⟩
  rcases List.mem_append.mp hy with h | h
  · rcases a.ownF x h with h | h | h
    · exact no.1 h
    · exact no.2 h
    · exact hT x hx h
  · rcases a.ownG x h with h | h
    · exact no.2 h
    · exact hT x hx h
end
/-! ### places within owned nodes -/
/-- the part at a path -/
def SV.sub : SV → List Nat → Option SV
  | x, [] => some x
  | .node _ xs, k :: p => match xs[k]? with
    | some y => y.sub p
    | none => none
  | .dat _, _ :: _ => none
  | .cell _, _ :: _ => none
def SV.putp : SV → List Nat → SV → SV
  | _, [], y => y
  | .node n xs, k :: p, y => match xs[k]? with
    | some z => .node n (xs.set k (z.putp p y))
    | none => .node n xs
  | .dat d, _ :: _, _ => .dat d
  | .cell k, _ :: _, _ => .cell k
inductive At (H : Hp) : V → List Nat → V → Prop
  | nil {v : V} : At H v [] v
  | cons {a : Addr} {n : Nd} {vs : List V} {k : Nat} {p : List Nat} {u v : V} : H a = some (n.ho vs) → n.fits vs.length → vs[k]? = some u → At H u p v → At H (.ref a) (k :: p) v
theorem zip_inj {α β : Type} : ∀ {ks ks' : List α} {vs ws : List β}, ks.length = vs.length → ks'.length = ws.length → ks.zip vs = ks'.zip ws → vs = ws
  | [], [], [], [], _, _, _ => rfl
  | _ :: _, _ :: _, _ :: _, _ :: _, h1, h2, e => by
    simp only [List.zip_cons_cons, List.cons.injEq, Prod.mk.injEq] at e
    rw [e.1.2, zip_inj (by simpa using h1) (by simpa using h2) e.2]
  | [], _ :: _, [], _ :: _, _, _, e => by simp at e
  | _ :: _, [], _ :: _, [], _, _, e => by simp at e
  | [], _, _ :: _, _, h, _, _ => by simp at h
  | _ :: _, _, [], _, h, _, _ => by simp at h
  | _, [], _, _ :: _, _, h, _ => by simp at h
  | _, _ :: _, _, [], _, h, _ => by simp at h
theorem Nd.inj {n m : Nd} {vs ws : List V} (hn : n.fits vs.length) (hm : m.fits ws.length) (e : n.ho vs = m.ho ws) : vs = ws := by
  cases n <;> cases m <;> simp only [Nd.ho] at e <;> try cases e
  · rfl
  · injection e with e; exact zip_inj hn.1 hm.1 e
  · injection e with e; exact zip_inj hn.1 hm.1 e
  · injection e with _ _ e; exact zip_inj hn.1 hm.1 e
theorem At.inj {H : Hp} {v0 u w : V} {p : List Nat} (a : At H v0 p u) (b : At H v0 p w) : u = w := by
  induction a with
  | nil => cases b; rfl
  | cons e f g _ ih =>
    cases b with
    | cons e' f' g' r' =>
      rw [e] at e'
      have := Nd.inj f f' (Option.some.inj e')
      subst this
      rw [g] at g'
      cases g'
      exact ih r'
/-- the k-th of some values, and what another one there makes of them -/
theorem RSs.at {K : PySem.W.Frag} {Φ H : Hp} {A : List Addr} : ∀ {vs : List V} {xs : List SV} {F : List Addr} {k : Nat} {x : SV}, RSs K Φ H A vs xs F → xs[k]? = some x →
    ∃ v F1 Fi F2, vs[k]? = some v ∧ F = F1 ++ (Fi ++ F2) ∧ RS K Φ H A v x Fi ∧
      ∀ {Φ' H' : Hp} {A' : List Addr}, Same Φ Φ' → Pfx A A' → (∀ b ∈ F1 ++ F2, H' b = H b) → (∀ b ∈ F1 ++ F2, Φ' b = none) →
        ∀ {w : V} {y : SV} {G : List Addr}, RS K Φ' H' A' w y G → RSs K Φ' H' A' (vs.set k w) (xs.set k y) (F1 ++ (G ++ F2))
  | _, _, _, _, _, .nil, e => by simp at e
  | _, _, _, 0, x, .cons (v := v) (F := F) (G := G) q r, e => by
    simp at e; subst e
    refine ⟨v, [], F, G, rfl, rfl, q, fun le hA h1 h2 => fun y => ?_⟩
    rw [List.nil_append]; exact .cons y (r.frame le hA h1 h2)
  | _, _, _, k + 1, x, .cons (F := F0) q0 r, e => by
    obtain ⟨v, F1, Fi, F2, e1, e2, q, up⟩ := RSs.at (k := k) (x := x) r (by simpa using e)
    refine ⟨v, F0 ++ F1, Fi, F2, by simpa using e1, by rw [e2, List.append_assoc], q, fun le hA h1 h2 => ?_⟩
    have m1 : ∀ b ∈ F0, b ∈ (F0 ++ F1) ++ F2 := fun b hb => List.mem_append_left _ (List.mem_append_left _ hb)
    have m2 : ∀ b ∈ F1 ++ F2, b ∈ (F0 ++ F1) ++ F2 := fun b hb => by rw [List.append_assoc]; exact List.mem_append_right _ hb
    intro w y G z
    rw [List.append_assoc]
    exact .cons (q0.frame le hA (fun b hb => h1 b (m1 b hb)) fun b hb => h2 b (m1 b hb)) (up le hA (fun b hb => h1 b (m2 b hb)) (fun b hb => h2 b (m2 b hb)) z)
/-- the part at a path, and what another one at its very object makes of the whole -/
theorem RS.sub {K : PySem.W.Frag} {Φ H : Hp} {A : List Addr} : ∀ {p : List Nat} {v0 : V} {x0 x : SV} {F : List Addr}, RS K Φ H A v0 x0 F → x0.sub p = some x →
    ∃ v F1 Fx F2, At H v0 p v ∧ F = F1 ++ (Fx ++ F2) ∧ RS K Φ H A v x Fx ∧ (p ≠ [] → ∀ {H' : Hp}, (∀ b ∈ F, H' b = H b) → At H' v0 p v) ∧
      ∀ {Φ' H' : Hp} {A' : List Addr}, Same Φ Φ' → Pfx A A' → (∀ b ∈ F1 ++ F2, H' b = H b) → (∀ b ∈ F1 ++ F2, Φ' b = none) →
        ∀ {y : SV} {G : List Addr}, RS K Φ' H' A' v y G → RS K Φ' H' A' v0 (x0.putp p y) (F1 ++ (G ++ F2))
  | [], v0, x0, x, F, r, e => by
    have e : some x0 = some x := by rw [← e]; cases x0 <;> rfl
    cases e
    refine ⟨v0, [], F, [], .nil, by simp, r, fun h => absurd rfl h, fun le hA h1 h2 y G z => ?_⟩
    have e2 : x0.putp [] y = y := by cases x0 <;> rfl
    rw [e2]; simpa using z
  | k :: p, _, .dat _, x, F, r, e => by cases e
  | k :: p, _, .cell _, x, F, r, e => by cases e
  | k :: p, _, .node n xs, x, _, .node (a := a) (vs := vs) (F := F) ea f pa r, e => by
    cases ek : xs[k]? with
    | none => unfold SV.sub at e; rw [ek] at e; cases e
    | some y0 =>
      have e' : y0.sub p = some x := by rw [← e]; show _ = (match xs[k]? with | some y => y.sub p | none => none); rw [ek]
      obtain ⟨v1, E1, Ei, E2, g1, g2, g3, up1⟩ := RSs.at r ek
      obtain ⟨v, F1, Fx, F2, h1, h2, h3, h3', up2⟩ := RS.sub g3 e'
      subst g2 h2
      refine ⟨v, a :: (E1 ++ F1), Fx, F2 ++ E2, .cons ea f g1 h1, by simp [List.append_assoc], h3, fun _ H' hb => ?_, fun {Φ' H' A'} le hA i1 i2 y G z => ?_⟩
      · refine .cons ((hb a (List.mem_cons_self ..)).trans ea) f g1 ?_
        by_cases hp : p = []
        · subst hp
          cases h1
          exact .nil
        · exact h3' hp fun b hm => hb b (List.mem_cons_of_mem _ (List.mem_append_right _ (List.mem_append_left _ hm)))
      · have z2 := up2 le hA (fun b hb => i1 b (by simp only [List.mem_append, List.mem_cons] at hb ⊢; rcases hb with h | h <;> simp [h]))
          (fun b hb => i2 b (by simp only [List.mem_append, List.mem_cons] at hb ⊢; rcases hb with h | h <;> simp [h])) z
        have z3 := up1 le hA (fun b hb => i1 b (by simp only [List.mem_append, List.mem_cons] at hb ⊢; rcases hb with h | h <;> simp [h]))
          (fun b hb => i2 b (by simp only [List.mem_append, List.mem_cons] at hb ⊢; rcases hb with h | h <;> simp [h])) z2
        have e3 : vs.set k v1 = vs := by
          obtain ⟨hk, ev⟩ := List.getElem?_eq_some_iff.mp g1
          rw [← ev]; exact List.set_getElem_self hk
        rw [e3] at z3
        have e4 : (SV.node n xs).putp (k :: p) y = .node n (xs.set k (y0.putp p y)) := by
          show (match xs[k]? with | some z => SV.node n (xs.set k (z.putp p y)) | none => SV.node n xs) = _
          rw [ek]
        rw [e4]
        have ha : H' a = H a := i1 a (List.mem_append_left _ (List.mem_cons_self ..))
        have hp : Φ' a = none := i2 a (List.mem_append_left _ (List.mem_cons_self ..))
        have q := RS.node (n := n) (ha.trans ea) f hp z3
        have e5 : a :: (E1 ++ F1) ++ (G ++ (F2 ++ E2)) = a :: (E1 ++ (F1 ++ (G ++ F2) ++ E2)) := by simp [List.append_assoc]
        rw [e5]
        exact q
end L3

namespace L3
open PySem PySem.Spec PyProof.Rows L2

def Sto.sub (S : Sto) (i : Nat) (p : List Nat) : Option SV := match S.ρ[i]? with
  | some (some x) => x.sub p
  | _ => none
theorem sub_some {S : Sto} {i : Nat} {p : List Nat} {x : SV} (h : S.sub i p = some x) : ∃ x0, S.ρ[i]? = some (some x0) ∧ x0.sub p = some x := by
  unfold Sto.sub at h
  cases e : S.ρ[i]? with
  | none => rw [e] at h; cases h
  | some o =>
    cases o with
    | none => rw [e] at h; cases h
    | some x0 => rw [e] at h; exact ⟨x0, rfl, h⟩
theorem sub_of {S : Sto} {i : Nat} {p : List Nat} {x0 : SV} (h : S.ρ[i]? = some (some x0)) : S.sub i p = x0.sub p := by
  unfold Sto.sub; rw [h]
/-- slots are at most frozen, in part or whole -/
def Frz (S S' : Sto) : Prop := ∀ (i : Nat) (p : List Nat) (y : SV), p ≠ [] → S'.sub i p = some y → ∃ x, S.sub i p = some x
theorem Frz.refl {S : Sto} : Frz S S := fun _ _ y _ h => ⟨y, h⟩
theorem Frz.trans {S S1 S2 : Sto} (a : Frz S S1) (b : Frz S1 S2) : Frz S S2 := fun i p y hp h => (b i p y hp h).elim fun z q => a i p z hp q
theorem Frz.of {S S' : Sto} (h : S'.ρ = S.ρ) : Frz S S' := fun i p y _ q => ⟨y, by unfold Sto.sub at q ⊢; rw [h] at q; exact q⟩
theorem sub_putp {d : D} : ∀ {p q : List Nat} {x0 y : SV}, q ≠ [] → (x0.putp p (.dat d)).sub q = some y → ∃ z, x0.sub q = some z
  | [], q, x0, y, hq, h => by
    cases q with
    | nil => exact absurd rfl hq
    | cons k q =>
      have e : x0.putp [] (.dat d) = .dat d := by cases x0 <;> rfl
      rw [e] at h; cases h
  | k :: p, [], _, _, hq, _ => absurd rfl hq
  | k :: p, k' :: q, .dat _, y, _, h => by cases h
  | k :: p, k' :: q, .cell _, y, _, h => by cases h
  | k :: p, k' :: q, .node n xs, y, _, h => by
    cases ek : xs[k]? with
    | none =>
      have e4 : (SV.node n xs).putp (k :: p) (.dat d) = .node n xs := by
        show (match xs[k]? with | some z => SV.node n (xs.set k (z.putp p (.dat d))) | none => SV.node n xs) = _
        rw [ek]
      rw [e4] at h; exact ⟨y, h⟩
    | some z0 =>
      have e4 : (SV.node n xs).putp (k :: p) (.dat d) = .node n (xs.set k (z0.putp p (.dat d))) := by
        show (match xs[k]? with | some z => SV.node n (xs.set k (z.putp p (.dat d))) | none => SV.node n xs) = _
        rw [ek]
      rw [e4] at h
      have h : (match (xs.set k (z0.putp p (.dat d)))[k']? with | some y => y.sub q | none => none) = some y := h
      show ∃ z, (match xs[k']? with | some y => y.sub q | none => none) = some z
      by_cases hk : k = k'
      · subst hk
        have hlt : k < xs.length := (List.getElem?_eq_some_iff.mp ek).1
        rw [List.getElem?_set_self hlt] at h
        rw [ek]
        by_cases hq : q = []
        · subst hq; exact ⟨z0, by cases z0 <;> rfl⟩
        · exact sub_putp hq h
      · rw [List.getElem?_set_ne hk] at h
        exact ⟨y, h⟩
/-! ### results of expressions -/
/-- a value of its own (data, or new and owned by none), or a part of what slot i owns -/
inductive R where
  | val (x : SV) | bor (i : Nat) (p : List Nat)
abbrev R.d (d : D) : R := .val (.dat d)
abbrev R.i (i : Int) : R := .val (.dat (.int i))
abbrev R.b (b : Bool) : R := .val (.dat (.bl b))
def RV (K : PySem.W.Frag) (Φ H : Hp) (A : List Addr) (S : Sto) (σ : Sl) (v : V) (r : R) (T : List Addr) : Prop := match r with
  | .val x => RS K Φ H A v x T
  | .bor i p => T = [] ∧ ∃ v0, σ[i]? = some (some v0) ∧ (p = [] → v = v0) ∧ ∀ x, S.sub i p = some x → At H v0 p v
/-- an exception -/
structure Ex where
  cls : Value
  fs : List (Str × D)
inductive Out (α : Type) where
  | ok (a : α) (S : Sto) | exc (e : Ex) (S : Sto)
def RX (K : PySem.W.Frag) (Φ H : Hp) (e : Ex) (c : Value) (d : Option Addr) : Prop :=
  c = e.cls ∧ ((e.fs = [] ∧ d = none) ∨ ∃ dx vs ds, d = some dx ∧ e.fs = ((e.fs.map (·.1)).zip ds) ∧ H dx = some (.xd ((e.fs.map (·.1)).zip vs)) ∧ vs.length = e.fs.length ∧ Rps K Φ vs ds)

section
variable (K : PySem.W.Frag) (W : WX)
def PostE (S : Sto) (σ : Sl) (H Φ : Hp) (A F G : List Addr) (Q : VK) : Out R → Prop
  | .ok r S' => ∀ v H' Φ' A' T F' G', Step F G H Φ A (T ++ F') G' H' Φ' A' → Stands K S' σ H' Φ' A' F' G' → RV K Φ' H' A' S' σ v r T → (T ++ (F' ++ G')).Nodup → Frz S S' → Q v H'
  | .exc e S' => ∀ c d H' Φ' A' F' G', Step F G H Φ A F' G' H' Φ' A' → Stands K S' σ H' Φ' A' F' G' → RX K Φ' H' e c d → Frz S S' → W c d σ H'
def PostT (S : Sto) (σ : Sl) (H Φ : Hp) (A F G : List Addr) (Q : Bool → Hp → Prop) : Out Bool → Prop
  | .ok b S' => ∀ H' Φ' A' F' G', Step F G H Φ A F' G' H' Φ' A' → Stands K S' σ H' Φ' A' F' G' → Frz S S' → Q b H'
  | .exc e S' => ∀ c d H' Φ' A' F' G', Step F G H Φ A F' G' H' Φ' A' → Stands K S' σ H' Φ' A' F' G' → RX K Φ' H' e c d → Frz S S' → W c d σ H'
inductive RVs (Φ H : Hp) (A : List Addr) (S : Sto) (σ : Sl) : List V → List R → List Addr → Prop
  | nil : RVs Φ H A S σ [] [] []
  | cons {v : V} {r : R} {vs : List V} {rs : List R} {T U : List Addr} : RV K Φ H A S σ v r T → RVs Φ H A S σ vs rs U → RVs Φ H A S σ (v :: vs) (r :: rs) (T ++ U)
def PostA (S : Sto) (σ : Sl) (H Φ : Hp) (A F G : List Addr) (Q : List V → Hp → Prop) : Out (List R) → Prop
  | .ok rs S' => ∀ vs H' Φ' A' T F' G', Step F G H Φ A (T ++ F') G' H' Φ' A' → Stands K S' σ H' Φ' A' F' G' → RVs K Φ' H' A' S' σ vs rs T → (T ++ (F' ++ G')).Nodup → Frz S S' → Q vs H'
  | .exc e S' => ∀ c d H' Φ' A' F' G', Step F G H Φ A F' G' H' Φ' A' → Stands K S' σ H' Φ' A' F' G' → RX K Φ' H' e c d → Frz S S' → W c d σ H'
abbrev FE := Sto → Option (Out R)
abbrev FT := Sto → Option (Out Bool)
abbrev FA := Sto → Option (Out (List R))
def EV (t : TE) (f : FE) : Prop := ∀ S σ H Φ A F G, Stands K S σ H Φ A F G → ∀ out, f S = some out → ∀ Q, PostE K W S σ H Φ A F G Q out → t σ H Q
def EVT (t : TT) (f : FT) : Prop := ∀ S σ H Φ A F G, Stands K S σ H Φ A F G → ∀ out, f S = some out → ∀ Q, PostT K W S σ H Φ A F G Q out → t σ H Q
def EVA (t : TA) (f : FA) : Prop := ∀ S σ H Φ A F G, Stands K S σ H Φ A F G → ∀ out, f S = some out → ∀ Q, PostA K W S σ H Φ A F G Q out → t σ H Q
end
structure DE (X : Cx) (W : WX) (e : Expr) (t : TE) (f : FE) : Prop where
  pe : PE X e t
  ev : EV X.K W t f
structure DT (X : Cx) (W : WX) (e : Expr) (t : TT) (f : FT) : Prop where
  pe : PT X e t
  ev : EVT X.K W t f
structure DW (X : Cx) (W : WX) (e : Expr) (t : TT) (f : FT) : Prop where
  pe : PW X e t
  ev : EVT X.K W t f
structure DA (X : Cx) (W : WX) (es : List Expr) (t : TA) (f : FA) : Prop where
  pe : PA X es t
  ev : EVA X.K W t f

/-! ### reading results -/
/-- the value of a result -/
def R.sv (S : Sto) : R → Option SV
  | .val x => some x
  | .bor i p => S.sub i p
/-- .. as a datum -/
def R.peek (S : Sto) (r : R) : Option D := (r.sv S).bind SV.peek

section
variable {K : PySem.W.Frag} {S S' : Sto} {σ : Sl} {H Φ H' Φ' : Hp} {A A' F G F' G' T : List Addr} {v : V} {r : R}
/-- the value of a result stands: with the footprint that it has -/
theorem RV.rs (st : Stands K S σ H Φ A F G) (h : RV K Φ H A S σ v r T) {x : SV} (e : r.sv S = some x) : ∃ U, RS K Φ H A v x U ∧ (∀ b ∈ U, b ∈ T ∨ b ∈ F) := by
  cases r with
  | val y => cases e; exact ⟨T, h, fun b hb => .inl hb⟩
  | bor i p =>
    obtain ⟨rfl, v0, e0, hp, hat⟩ := h
    obtain ⟨x0, e1, e2⟩ := sub_some (show S.sub i p = some x from e)
    obtain ⟨v', F1, Fi, F2, e3, e4, q, _⟩ := st.ro.at e1
    rw [e0] at e3; cases e3
    obtain ⟨u, E1, Ex, E2, a1, a2, a3, _⟩ := RS.sub q e2
    have : u = v := a1.inj (hat x e)
    subst this
    exact ⟨Ex, a3, fun b hb => .inr (by rw [e4, a2]; simp [hb])⟩
theorem RV.rp (st : Stands K S σ H Φ A F G) (h : RV K Φ H A S σ v r T) {d : D} (e : r.peek S = some d) : Rp K H v d := by
  unfold R.peek at e
  cases e1 : r.sv S with
  | none => rw [e1] at e; cases e
  | some x =>
    rw [e1] at e
    obtain ⟨U, q, _⟩ := RV.rs st h e1
    exact q.rp st.le e
/-- .. as a frozen datum -/
theorem RV.dat (st : Stands K S σ H Φ A F G) (h : RV K Φ H A S σ v r T) {d : D} (e : r.sv S = some (.dat d)) : Rp K Φ v d := by
  obtain ⟨U, q, _⟩ := RV.rs st h e
  cases q with
  | dat q => exact q
theorem RV.there (h : RV K Φ H A S σ v r T) : ∀ b ∈ T, H b ≠ none ∧ Φ b = none := by
  cases r with
  | val y => exact RS.there h
  | bor i p => obtain ⟨rfl, _⟩ := h; intro b hb; simp at hb
/-- a result told ahead, behind a step -/
theorem RV.step {F1 G1 : List Addr} (st : Stands K S σ H Φ A F G) (h : RV K Φ H A S σ v r T) (nd : (T ++ (F ++ G)).Nodup) (sp : Step F G H Φ A F1 G1 H' Φ' A') (fz : Frz S S') : RV K Φ' H' A' S' σ v r T := by
  obtain ⟨k1, k2⟩ := sp.same h.there nd
  cases r with
  | val y => exact RS.frame sp.le sp.cells h k1 k2
  | bor i p =>
    obtain ⟨rfl, v0, e0, hp, hat⟩ := h
    refine ⟨rfl, v0, e0, hp, fun x1 e1 => ?_⟩
    by_cases hp' : p = []
    · subst hp'; rw [hp rfl]; exact .nil
    · obtain ⟨x, e⟩ := fz i p x1 hp' e1
      obtain ⟨x0, e1', e2⟩ := sub_some e
      obtain ⟨v', F1, Fi, F2, e3, e4, q, _⟩ := st.ro.at e1'
      rw [e0] at e3; cases e3
      obtain ⟨u, E1, Ex, E2, a1, a2, a3, a4, _⟩ := RS.sub q e2
      have : u = v := a1.inj (hat x e)
      subst this
      refine a4 hp' fun b hb => ?_
      have hF : b ∈ F := by rw [e4]; simp [hb]
      have hG : b ∉ G := fun z => (List.nodup_append.mp st.nd).2.2 b hF b z rfl
      obtain ⟨h1, _⟩ := st.ro.there b hF
      cases e5 : H b with
      | none => exact absurd e5 h1
      | some o => exact sp.keep b o e5 hG
theorem RVs.there : ∀ {vs : List V} {rs : List R} {T : List Addr}, RVs K Φ H A S σ vs rs T → ∀ b ∈ T, H b ≠ none ∧ Φ b = none
  | _, _, _, .nil, b, hb => by simp at hb
  | _, _, _, .cons q r, b, hb => by
    rcases List.mem_append.mp hb with hb | hb
    · exact RV.there q b hb
    · exact RVs.there r b hb
theorem nd_left {T U V : List Addr} (h : ((T ++ U) ++ V).Nodup) : (T ++ V).Nodup := by
  refine h.sublist ?_
  exact (List.sublist_append_left T U).append (List.Sublist.refl V)
theorem nd_right {T U V : List Addr} (h : ((T ++ U) ++ V).Nodup) : (U ++ V).Nodup := by
  refine h.sublist ?_
  exact (List.sublist_append_right T U).append (List.Sublist.refl V)
theorem RVs.step {F1 G1 : List Addr} (st : Stands K S σ H Φ A F G) (sp : Step F G H Φ A F1 G1 H' Φ' A') (fz : Frz S S') :
    ∀ {vs : List V} {rs : List R} {T : List Addr}, RVs K Φ H A S σ vs rs T → (T ++ (F ++ G)).Nodup → RVs K Φ' H' A' S' σ vs rs T
  | _, _, _, .nil, _ => .nil
  | _, _, _, .cons q r, nd => .cons (RV.step st q (nd_left nd) sp fz) (RVs.step st sp fz r (nd_right nd))
theorem RVs.length : ∀ {vs : List V} {rs : List R} {T : List Addr}, RVs K Φ H A S σ vs rs T → vs.length = rs.length
  | _, _, _, .nil => rfl
  | _, _, _, .cons _ r => congrArg (· + 1) r.length

/-! ### what is handed on: frozen, or a cell -/
/-- freeze what is at F (all of it owned, none of it elsewhere) -/
theorem Stands.frz (st : Stands K S σ H Φ A F G) (hT : ∀ b ∈ T, H b ≠ none ∧ Φ b = none) (nd : (T ++ (F ++ G)).Nodup) : Stands K S σ H (frz Φ H T) A F G ∧ Step (T ++ F) G H Φ A F G H (L3.frz Φ H T) A := by
  have hn : ∀ b ∈ F ++ G, b ∉ T := fun b hb hT' => (List.nodup_append.mp nd).2.2 b hT' b hb rfl
  have l1 : Same Φ (L3.frz Φ H T) := frz_le fun b hb => (hT b hb).2
  refine ⟨⟨frz_sub st.le, st.ro.frame l1 Pfx.refl (fun _ _ => rfl) fun b hb => ?_, st.rc.frame l1 Pfx.refl (fun _ _ => rfl) fun b hb => ?_, st.nd⟩,
    fun _ _ e _ => e, l1, fun b o e => ?_, fun b hb => .inl (List.mem_append_right _ hb), fun b hb => .inl hb, fun _ h => h, Pfx.refl⟩
  · rw [frz_out (hn b (List.mem_append_left _ hb))]; exact (st.ro.there b hb).2
  · rw [frz_out (hn b (List.mem_append_right _ hb))]; exact (st.rc.there b hb).2
  · by_cases hb : b ∈ T
    · exact .inr (.inl (List.mem_append_left _ hb))
    · rw [frz_out hb] at e; exact .inl e
/-- a result as a datum for good: what a slot owns is frozen in it -/
def R.esc (S : Sto) : R → Option (D × Sto)
  | .val x => x.peek.map fun d => (d, S)
  | .bor i p => match S.ρ[i]? with
    | some (some x0) => match x0.sub p with
      | some (.dat d) => some (d, S)
      | some x => x.peek.map fun d => (d, { S with ρ := S.ρ.set i (some (x0.putp p (.dat d))) })
      | none => none
    | _ => none
theorem frz_slot {i : Nat} {x0 : SV} {p : List Nat} {d : D} (e : S.ρ[i]? = some (some x0)) : Frz S { S with ρ := S.ρ.set i (some (x0.putp p (.dat d))) } := fun j q y hq h => by
  by_cases hj : i = j
  · subst hj
    have hlt : i < S.ρ.length := (List.getElem?_eq_some_iff.mp e).1
    rw [sub_of (S := { S with ρ := S.ρ.set i (some (x0.putp p (.dat d))) }) (by show (S.ρ.set i _)[i]? = _; rw [List.getElem?_set_self hlt])] at h
    rw [sub_of e]
    exact sub_putp hq h
  · refine ⟨y, ?_⟩
    unfold Sto.sub at h ⊢
    have e2 : (S.ρ.set i (some (x0.putp p (.dat d))))[j]? = S.ρ[j]? := List.getElem?_set_ne hj
    rw [show ({ S with ρ := S.ρ.set i (some (x0.putp p (.dat d))) } : Sto).ρ[j]? = S.ρ[j]? from e2] at h
    exact h
theorem esc_ok (st : Stands K S σ H Φ A F G) (h : RV K Φ H A S σ v r T) (nd : (T ++ (F ++ G)).Nodup) {d : D} {S' : Sto} (e : r.esc S = some (d, S')) :
    ∃ Φ' F', Step (T ++ F) G H Φ A F' G H Φ' A ∧ Stands K S' σ H Φ' A F' G ∧ Rp K Φ' v d ∧ Frz S S' := by
  cases r with
  | val x =>
    have e : x.peek.map (fun d => (d, S)) = some (d, S') := e
    cases ex : x.peek with
    | none => rw [ex] at e; cases e
    | some d0 =>
      rw [ex] at e; cases e
      obtain ⟨s1, s2⟩ := st.frz (RS.there h) nd
      exact ⟨_, F, s2, s1, RS.freeze (fun b hb => (RS.there h b hb).2) h ex fun b hb => hb, .refl⟩
  | bor i p =>
    obtain ⟨rfl, v0, e0, hp, hat⟩ := h
    unfold R.esc at e
    dsimp only at e
    cases e1 : S.ρ[i]? with
    | none => rw [e1] at e; cases e
    | some o =>
      cases o with
      | none => rw [e1] at e; cases e
      | some x0 =>
        rw [e1] at e
        dsimp only at e
        cases e2 : x0.sub p with
        | none => rw [e2] at e; cases e
        | some x =>
          obtain ⟨v', F1, Fi, F2, e3, e4, q, up⟩ := st.ro.at e1
          rw [e0] at e3; cases e3
          obtain ⟨u, E1, Ex, E2, a1, a2, a3, _, a5⟩ := RS.sub q e2
          have hu : u = v := a1.inj (hat x (by rw [sub_of e1]; exact e2))
          subst hu
          rw [e2] at e
          have fin : ∀ d0, x.peek = some d0 → S' = { S with ρ := S.ρ.set i (some (x0.putp p (.dat d0))) } → d = d0 →
              ∃ Φ' F', Step ([] ++ F) G H Φ A F' G H Φ' A ∧ Stands K S' σ H Φ' A F' G ∧ Rp K Φ' u d ∧ Frz S S' := fun d0 ex eS ed => by
            subst eS ed
            subst e4 a2
            have hE : ∀ b ∈ Ex, H b ≠ none ∧ Φ b = none := RS.there a3
            have ndF : (F1 ++ ((E1 ++ (Ex ++ E2)) ++ F2) ++ G).Nodup := st.nd
            have no : ∀ b, b ∈ (F1 ++ (E1 ++ E2) ++ F2) ++ G → b ∉ Ex := fun b hb hx => by
              simp only [List.nodup_append, List.mem_append] at ndF
              simp only [List.mem_append] at hb
              grind
            have l1 : Same Φ (L3.frz Φ H Ex) := frz_le fun b hb => (hE b hb).2
            have hrp : Rp K (L3.frz Φ H Ex) u d := RS.freeze (fun b hb => (hE b hb).2) a3 ex fun b hb => hb
            have nf : ∀ b, b ∈ (F1 ++ (E1 ++ E2) ++ F2) ++ G → Φ b = none → L3.frz Φ H Ex b = none := fun b hb hz => by rw [frz_out (no b hb)]; exact hz
            have r0 := a5 (Φ' := L3.frz Φ H Ex) (H' := H) (A' := A) l1 Pfx.refl (fun _ _ => rfl) (fun b hb => nf b (by simp only [List.mem_append] at hb ⊢; grind) ((RS.there q b (by simp only [List.mem_append] at hb ⊢; grind)).2)) (y := .dat d) (G := []) (.dat hrp)
            have r1 := (up (Φ' := L3.frz Φ H Ex) (H' := H) (A' := A) l1 Pfx.refl (fun _ _ => rfl) (fun b hb => nf b (by simp only [List.mem_append] at hb ⊢; grind) ((st.ro.there b (by simp only [List.mem_append] at hb ⊢; grind)).2))).1 r0
            have es : σ.set i (some v0) = σ := by
              obtain ⟨hk, ev⟩ := List.getElem?_eq_some_iff.mp e0
              rw [← ev]; exact List.set_getElem_self hk
            rw [es] at r1
            refine ⟨L3.frz Φ H Ex, F1 ++ ((E1 ++ ([] ++ E2)) ++ F2), ⟨fun _ _ e _ => e, l1, fun b o e => ?_, fun b hb => ?_, fun b hb => .inl hb, fun _ h => h, Pfx.refl⟩, ⟨frz_sub st.le, r1, st.rc.frame l1 Pfx.refl (fun _ _ => rfl) fun b hb => ?_, ?_⟩, hrp, frz_slot e1⟩
            · by_cases hb : b ∈ Ex
              · exact .inr (.inl (by simp only [List.mem_append]; grind))
              · rw [frz_out hb] at e; exact .inl e
            · exact .inl (by simp only [List.mem_append] at hb ⊢; grind)
            · exact nf b (List.mem_append_right _ hb) (st.rc.there b hb).2
            · simp only [List.nodup_append, List.mem_append] at ndF ⊢
              grind
          cases x with
          | dat d0 =>
            cases e
            cases a3 with
            | dat a3 => exact ⟨Φ, F, by rw [List.nil_append]; exact .refl, st, a3, .refl⟩
          | node n xs =>
            have e : ((SV.node n xs).peek).map (fun d => (d, ({ S with ρ := S.ρ.set i (some (x0.putp p (.dat d))) } : Sto))) = some (d, S') := e
            cases ex : (SV.node n xs).peek with
            | none => rw [ex] at e; cases e
            | some d0 => rw [ex] at e; cases e; exact fin _ ex rfl rfl
          | cell k => cases e
end
end L3

namespace L3
open PySem PySem.Spec PyProof.Rows L2

section
variable {K : PySem.W.Frag} {W : WX} {S S' S1 S2 : Sto} {σ : Sl} {H Φ H' Φ' H1 Φ1 H2 Φ2 : Hp} {A A' A1 A2 F G F' G' F1 G1 F2 G2 T T1 T2 : List Addr} {v : V} {r : R}

theorem Step.drop (a : Step F G H Φ A (T ++ F') G' H' Φ' A') : Step F G H Φ A F' G' H' Φ' A' := ⟨a.keep, a.le, a.grow, fun b hb => a.ownF b (List.mem_append_right _ hb), a.ownG, a.live, a.cells⟩
theorem Step.mid (a : Step F G H Φ A (T ++ (T1 ++ F')) G' H' Φ' A') : Step F G H Φ A (T1 ++ F') G' H' Φ' A' := a.drop
/-- what is wanted of an exception -/
def XP (K : PySem.W.Frag) (W : WX) (S : Sto) (σ : Sl) (H Φ : Hp) (A F G : List Addr) (e : Ex) (S' : Sto) : Prop :=
  ∀ c d H' Φ' A' F' G', Step F G H Φ A F' G' H' Φ' A' → Stands K S' σ H' Φ' A' F' G' → RX K Φ' H' e c d → Frz S S' → W c d σ H'
theorem XP.at {e : Ex} (x : XP K W S σ H Φ A F G e S') (sp : Step F G H Φ A (T ++ F1) G1 H1 Φ1 A1) (fz : Frz S S1) : XP K W S1 σ H1 Φ1 A1 F1 G1 e S' :=
  fun c d H' Φ' A' F' G' s2 st rx f2 => x c d H' Φ' A' F' G' (Step.trans (T1 := []) sp s2).drop st rx (fz.trans f2)

def bindE {α β : Type} (f : Sto → Option (Out α)) (g : α → Sto → Option (Out β)) : Sto → Option (Out β) := fun S => match f S with
  | some (.ok a S1) => g a S1
  | some (.exc e S1) => some (.exc e S1)
  | none => none
def retE {α : Type} (a : α) : Sto → Option (Out α) := fun S => some (.ok a S)

theorem run1 {t : TE} {f : FE} {β : Type} {k : R → Sto → Option (Out β)} {out : Out β} {P : VK} (hf : EV K W t f) (st : Stands K S σ H Φ A F G) (h : bindE f k S = some out)
    (hx : ∀ e S', out = .exc e S' → XP K W S σ H Φ A F G e S')
    (hk : ∀ r S1 v H1 Φ1 A1 T F1 G1, Step F G H Φ A (T ++ F1) G1 H1 Φ1 A1 → Stands K S1 σ H1 Φ1 A1 F1 G1 → RV K Φ1 H1 A1 S1 σ v r T → (T ++ (F1 ++ G1)).Nodup → Frz S S1 → k r S1 = some out → P v H1) : t σ H P := by
  unfold bindE at h
  cases e : f S with
  | none => rw [e] at h; cases h
  | some o =>
    rw [e] at h
    cases o with
    | ok r S1 => exact hf S σ H Φ A F G st _ e P fun v H' Φ' A' T F' G' sp st' rv nd fz => hk r S1 v H' Φ' A' T F' G' sp st' rv nd fz h
    | exc x S1 =>
      cases h
      exact hf S σ H Φ A F G st _ e P (hx x S1 rfl)
theorem run2 {ta tb : TE} {fa fb : FE} {β : Type} {k : R → R → Sto → Option (Out β)} {out : Out β} {P : V → V → Hp → Prop} (ha : EV K W ta fa) (hb : EV K W tb fb) (st : Stands K S σ H Φ A F G)
    (h : bindE fa (fun x => bindE fb fun y => k x y) S = some out) (hx : ∀ e S', out = .exc e S' → XP K W S σ H Φ A F G e S')
    (hk : ∀ ra rb S1 x y H1 Φ1 A1 T U F1 G1, Step F G H Φ A (T ++ (U ++ F1)) G1 H1 Φ1 A1 → Stands K S1 σ H1 Φ1 A1 F1 G1 → RV K Φ1 H1 A1 S1 σ x ra T → RV K Φ1 H1 A1 S1 σ y rb U → (T ++ (U ++ (F1 ++ G1))).Nodup → Frz S S1 →
      k ra rb S1 = some out → P x y H1) : ta σ H fun x H1 => tb σ H1 fun y H2 => P x y H2 :=
  run1 ha st h hx fun ra S1 x H1 Φ1 A1 T F1 G1 sp1 st1 rv1 nd1 fz1 h1 => run1 hb st1 h1 (fun e S' eo => (hx e S' eo).at sp1 fz1) fun rb S2 y H2 Φ2 A2 U F2 G2 sp2 st2 rv2 nd2 fz2 h2 => by
    have rv1' := RV.step st1 rv1 nd1 sp2.drop fz2
    have nd : (T ++ (U ++ (F2 ++ G2))).Nodup := by
      have := sp2.apart (fun b hb => (rv1.there b hb).1) nd1 (by rw [List.append_assoc]; exact nd2)
      simpa [List.append_assoc] using this
    exact hk ra rb S2 x y H2 Φ2 A2 T U F2 G2 (sp1.trans sp2) st2 rv1' rv2 nd (fz1.trans fz2) h2
theorem runA {t : TA} {f : FA} {β : Type} {k : List R → Sto → Option (Out β)} {out : Out β} {P : List V → Hp → Prop} (hf : EVA K W t f) (st : Stands K S σ H Φ A F G) (h : bindE f k S = some out)
    (hx : ∀ e S', out = .exc e S' → XP K W S σ H Φ A F G e S')
    (hk : ∀ rs S1 vs H1 Φ1 A1 T F1 G1, Step F G H Φ A (T ++ F1) G1 H1 Φ1 A1 → Stands K S1 σ H1 Φ1 A1 F1 G1 → RVs K Φ1 H1 A1 S1 σ vs rs T → (T ++ (F1 ++ G1)).Nodup → Frz S S1 → k rs S1 = some out → P vs H1) : t σ H P := by
  unfold bindE at h
  cases e : f S with
  | none => rw [e] at h; cases h
  | some o =>
    rw [e] at h
    cases o with
    | ok r S1 => exact hf S σ H Φ A F G st _ e P fun v H' Φ' A' T F' G' sp st' rv nd fz => hk r S1 v H' Φ' A' T F' G' sp st' rv nd fz h
    | exc x S1 =>
      cases h
      exact hf S σ H Φ A F G st _ e P (hx x S1 rfl)
theorem runT {t : TT} {f : FT} {β : Type} {k : Bool → Sto → Option (Out β)} {out : Out β} {P : Bool → Hp → Prop} (hf : EVT K W t f) (st : Stands K S σ H Φ A F G) (h : bindE f k S = some out)
    (hx : ∀ e S', out = .exc e S' → XP K W S σ H Φ A F G e S')
    (hk : ∀ b S1 H1 Φ1 A1 F1 G1, Step F G H Φ A F1 G1 H1 Φ1 A1 → Stands K S1 σ H1 Φ1 A1 F1 G1 → Frz S S1 → k b S1 = some out → P b H1) : t σ H P := by
  unfold bindE at h
  cases e : f S with
  | none => rw [e] at h; cases h
  | some o =>
    rw [e] at h
    cases o with
    | ok r S1 => exact hf S σ H Φ A F G st _ e P fun H' Φ' A' F' G' sp st' fz => hk r S1 H' Φ' A' F' G' sp st' fz h
    | exc x S1 =>
      cases h
      exact hf S σ H Φ A F G st _ e P (hx x S1 rfl)
/-- from PostE, what run1 wants of exceptions -/
theorem PostE.x {out : Out R} {Q : VK} (h : PostE K W S σ H Φ A F G Q out) : ∀ e S', out = .exc e S' → XP K W S σ H Φ A F G e S' := fun e S' eo => by subst eo; exact h
theorem PostT.x {out : Out Bool} {Q : Bool → Hp → Prop} (h : PostT K W S σ H Φ A F G Q out) : ∀ e S', out = .exc e S' → XP K W S σ H Φ A F G e S' := fun e S' eo => by subst eo; exact h
theorem PostA.x {out : Out (List R)} {Q : List V → Hp → Prop} (h : PostA K W S σ H Φ A F G Q out) : ∀ e S', out = .exc e S' → XP K W S σ H Φ A F G e S' := fun e S' eo => by subst eo; exact h
/-- the post at a later state -/
theorem PostE.at {out : Out R} {Q : VK} (h : PostE K W S σ H Φ A F G Q out) (sp : Step F G H Φ A (T ++ F1) G1 H1 Φ1 A1) (fz : Frz S S1) : PostE K W S1 σ H1 Φ1 A1 (T ++ F1) G1 Q out := by
  cases out with
  | ok r S' =>
    intro v H' Φ' A' U F' G' s2 st rv nd f2
    have s3 : Step F G H Φ A (U ++ F') G' H' Φ' A' := Step.trans (T := []) (T1 := U) (F1 := T ++ F1) sp s2
    exact h v H' Φ' A' U F' G' s3 st rv nd (fz.trans f2)
  | exc e S' =>
    intro c d H' Φ' A' F' G' s2 st rx f2
    have s3 : Step F G H Φ A F' G' H' Φ' A' := Step.trans (T := []) (T1 := []) (F1 := T ++ F1) sp s2
    exact h c d H' Φ' A' F' G' s3 st rx (fz.trans f2)
/-- data handed on -/
theorem PostE.dat {Q : VK} {d : D} (h : PostE K W S σ H Φ A F G Q (.ok (.d d) S)) (st : Stands K S σ H Φ A F1 G) (hF : ∀ b ∈ F1, b ∈ F) (rp : Rp K Φ v d) : Q v H :=
  h v H Φ A [] F1 G ⟨fun _ _ e _ => e, fun _ _ e => e, fun _ _ e => .inl e, fun b hb => .inl (hF b hb), fun _ h => .inl h, fun _ h => h, Pfx.refl⟩ st (RS.dat rp) (by simpa using st.nd) .refl

/-! ### new objects -/
theorem upd_same' {H : Hp} {p : Addr} {o : HO} (h : H p = none) : Same H (upd H p o) := fun b x e => by
  rw [upd_ne (ne_of_none e h)]; exact e
/-- a new list of its own -/
theorem new_list {p : Addr} {vs : List V} {xs : List SV} {U : List Addr} (st : Stands K S σ H Φ A F G) (q : RSs K Φ H A vs xs U) (nd : (U ++ (F ++ G)).Nodup) (hp : H p = none) :
    Step (U ++ F) G H Φ A ((p :: U) ++ F) G (upd H p (.lst vs)) Φ A ∧ Stands K S σ (upd H p (.lst vs)) Φ A F G ∧ RS K Φ (upd H p (.lst vs)) A (.ref p) (.own xs) (p :: U) ∧ ((p :: U) ++ (F ++ G)).Nodup := by
  have no : ∀ b ∈ U ++ (F ++ G), H b ≠ none := fun b hb => by
    rcases List.mem_append.mp hb with hb | hb
    · exact (q.there b hb).1
    · rcases List.mem_append.mp hb with hb | hb
      · exact (st.ro.there b hb).1
      · exact (st.rc.there b hb).1
  have nep : ∀ b ∈ U ++ (F ++ G), b ≠ p := fun b hb e => no b hb (by rw [e]; exact hp)
  have hΦ : Φ p = none := by
    cases e : Φ p with
    | none => rfl
    | some o => have := st.le _ _ e; rw [hp] at this; cases this
  have same : ∀ b ∈ U ++ (F ++ G), upd H p (.lst vs) b = H b := fun b hb => upd_ne (nep b hb)
  refine ⟨⟨fun b o e _ => upd_same' hp _ _ e, fun _ _ e => e, fun _ _ e => .inl e, fun b hb => ?_, fun _ h => .inl h, fun b hb => ?_, Pfx.refl⟩,
    ⟨st.le.trans (upd_same' hp), st.ro.frame (Same.refl _) Pfx.refl (fun b hb => same b (by simp [hb])) (fun b hb => (st.ro.there b hb).2), st.rc.frame (Same.refl _) Pfx.refl (fun b hb => same b (by simp [hb])) (fun b hb => (st.rc.there b hb).2), st.nd⟩,
    .node (n := .lst) upd_same ⟨trivial, trivial⟩ hΦ (q.frame (Same.refl _) Pfx.refl (fun b hb => same b (by simp [hb])) fun b hb => (q.there b hb).2), ?_⟩
  · rcases List.mem_append.mp hb with hb | hb
    · rcases List.mem_cons.mp hb with rfl | hb
      · exact .inr (.inr hp)
      · exact .inl (List.mem_append_left _ hb)
    · exact .inl (List.mem_append_right _ hb)
  · by_cases e : b = p
    · subst e; rw [upd_same]; simp
    · rw [upd_ne e]; exact hb
  · rw [List.cons_append]
    exact List.nodup_cons.mpr ⟨fun hb => nep p hb rfl, nd⟩
/-- a new object, frozen at once -/
theorem new_frz {p : Addr} {o : HO} (st : Stands K S σ H Φ A F G) (hp : H p = none) : Step F G H Φ A F G (upd H p o) (upd Φ p o) A ∧ Stands K S σ (upd H p o) (upd Φ p o) A F G ∧ Same Φ (upd Φ p o) := by
  have hΦ : Φ p = none := by
    cases e : Φ p with
    | none => rfl
    | some o => have := st.le _ _ e; rw [hp] at this; cases this
  have nep : ∀ b ∈ F ++ G, b ≠ p := fun b hb e => by
    subst e
    rcases List.mem_append.mp hb with hb | hb
    · exact (st.ro.there b hb).1 hp
    · exact (st.rc.there b hb).1 hp
  refine ⟨⟨fun b x e _ => upd_same' hp _ _ e, upd_same' hΦ, fun b x e => ?_, fun _ h => .inl h, fun _ h => .inl h, fun b hb => ?_, Pfx.refl⟩,
    ⟨fun b x e => ?_, st.ro.frame (upd_same' hΦ) Pfx.refl (fun b hb => upd_ne (nep b (by simp [hb]))) (fun b hb => by rw [upd_ne (nep b (by simp [hb]))]; exact (st.ro.there b hb).2),
      st.rc.frame (upd_same' hΦ) Pfx.refl (fun b hb => upd_ne (nep b (by simp [hb]))) (fun b hb => by rw [upd_ne (nep b (by simp [hb]))]; exact (st.rc.there b hb).2), st.nd⟩, upd_same' hΦ⟩
  · by_cases h : b = p
    · subst h; exact .inr (.inr (.inr hp))
    · rw [upd_ne h] at e; exact .inl e
  · by_cases e : b = p
    · subst e; rw [upd_same]; simp
    · rw [upd_ne e]; exact hb
  · by_cases h : b = p
    · subst h; rw [upd_same] at e ⊢; exact e
    · rw [upd_ne h] at e ⊢; exact st.le _ _ e

/-! ### many at once -/
theorem RV.step' {F0 G1 F1 : List Addr} (st : Stands K S σ H Φ A F G) (h : RV K Φ H A S σ v r T) (nd : (T ++ (F0 ++ G)).Nodup) (sp : Step F0 G H Φ A F1 G1 H' Φ' A') (fz : Frz S S') : RV K Φ' H' A' S' σ v r T := by
  obtain ⟨k1, k2⟩ := sp.same h.there nd
  cases r with
  | val y => exact RS.frame sp.le sp.cells h k1 k2
  | bor i p =>
    obtain ⟨rfl, v0, e0, hp, hat⟩ := h
    refine ⟨rfl, v0, e0, hp, fun x1 e1 => ?_⟩
    by_cases hp' : p = []
    · subst hp'; rw [hp rfl]; exact .nil
    · obtain ⟨x, e⟩ := fz i p x1 hp' e1
      obtain ⟨x0, e1', e2⟩ := sub_some e
      obtain ⟨v', E1, Ei, E2, e3, e4, q, _⟩ := st.ro.at e1'
      rw [e0] at e3; cases e3
      obtain ⟨u, D1, Dx, D2, a1, a2, a3, a4, _⟩ := RS.sub q e2
      have : u = v := a1.inj (hat x e)
      subst this
      refine a4 hp' fun b hb => ?_
      have hF : b ∈ F := by rw [e4]; simp [hb]
      have hG : b ∉ G := fun z => (List.nodup_append.mp st.nd).2.2 b hF b z rfl
      obtain ⟨h1, _⟩ := st.ro.there b hF
      cases e5 : H b with
      | none => exact absurd e5 h1
      | some o => exact sp.keep b o e5 hG
theorem RVs.step' {F0 F1 G1 : List Addr} (st : Stands K S σ H Φ A F G) (sp : Step F0 G H Φ A F1 G1 H' Φ' A') (fz : Frz S S') :
    ∀ {vs : List V} {rs : List R} {T : List Addr}, RVs K Φ H A S σ vs rs T → (T ++ (F0 ++ G)).Nodup → RVs K Φ' H' A' S' σ vs rs T
  | _, _, _, .nil, _ => .nil
  | _, _, _, .cons q r, nd => .cons (RV.step' st q (nd_left nd) sp fz) (RVs.step' st sp fz r (nd_right nd))
def escs : List R → Sto → Option (List D × Sto)
  | [], S => some ([], S)
  | r :: rs, S => match r.esc S with
    | some (d, S1) => match escs rs S1 with
      | some (ds, S2) => some (d :: ds, S2)
      | none => none
    | none => none
theorem escs_ok : ∀ {vs : List V} {rs : List R} {T : List Addr} {S : Sto} {Φ : Hp} {F : List Addr} {ds : List D}, Stands K S σ H Φ A F G → RVs K Φ H A S σ vs rs T → (T ++ (F ++ G)).Nodup → escs rs S = some (ds, S') →
    ∃ Φ' F', Step (T ++ F) G H Φ A F' G H Φ' A ∧ Stands K S' σ H Φ' A F' G ∧ Rps K Φ' vs ds ∧ Frz S S'
  | _, _, _, S, Φ, F, _, st, .nil, nd, e => by
    cases e
    exact ⟨Φ, F, by rw [List.nil_append]; exact .refl, st, .nil, .refl⟩
  | _, _, _, S, Φ, F, ds, st, .cons (r := r) (rs := rs) (T := T) (U := U) q qs, nd, e => by
    unfold escs at e
    cases e1 : r.esc S with
    | none => rw [e1] at e; cases e
    | some dS =>
      obtain ⟨d, S1⟩ := dS
      rw [e1] at e
      dsimp only at e
      cases e2 : escs rs S1 with
      | none => rw [e2] at e; cases e
      | some dS2 =>
        obtain ⟨ds2, S2⟩ := dS2
        rw [e2] at e; cases e
        obtain ⟨Φ1, F1, sp1, st1, rp1, fz1⟩ := esc_ok st q (nd_left nd) e1
        have nd' : (U ++ ((T ++ F) ++ G)).Nodup := by
          simp only [List.nodup_append, List.mem_append] at nd ⊢; grind
        have qs1 := RVs.step' st sp1 fz1 qs nd'
        have nd1 : (U ++ (F1 ++ G)).Nodup := sp1.apart (fun b hb => (qs.there b hb).1) nd' st1.nd
        obtain ⟨Φ2, F2, sp2, st2, rp2, fz2⟩ := escs_ok st1 qs1 nd1 e2
        refine ⟨Φ2, F2, ⟨fun b o e _ => e, sp1.le.trans sp2.le, fun b o e => ?_, fun b hb => ?_, fun _ h => .inl h, fun _ h => h, Pfx.refl⟩, st2, .cons (rp1.mono sp2.le) rp2, fz1.trans fz2⟩
        · rcases sp2.grow b o e with h | h | h | h
          · rcases sp1.grow b o h with h | h | h | h
            · exact .inl h
            · exact .inr (.inl (by simp only [List.mem_append] at h ⊢; grind))
            · exact .inr (.inr (.inl h))
            · exact .inr (.inr (.inr h))
          · rcases List.mem_append.mp h with h | h
            · exact .inr (.inl (by simp [h]))
            · rcases sp1.ownF b h with h | h | h
              · exact .inr (.inl (by simp only [List.mem_append] at h ⊢; grind))
              · exact .inr (.inr (.inl h))
              · exact .inr (.inr (.inr h))
          · exact .inr (.inr (.inl h))
          · exact .inr (.inr (.inr h))
        · rcases sp2.ownF b hb with h | h | h
          · rcases List.mem_append.mp h with h | h
            · exact .inl (by simp [h])
            · rcases sp1.ownF b h with h | h | h
              · exact .inl (by simp only [List.mem_append] at h ⊢; grind)
              · exact .inr (.inl h)
              · exact .inr (.inr h)
          · exact .inr (.inl h)
          · exact .inr (.inr h)
/-- as a part of a new list: its own, or frozen -/
def R.kid (S : Sto) : R → Option (SV × Sto)
  | .val x => some (x, S)
  | .bor i p => match S.sub i p with
    | some (.cell k) => some (.cell k, S)
    | _ => match (R.bor i p).esc S with
      | some (d, S1) => some (.dat d, S1)
      | none => none
def kids : List R → Sto → Option (List SV × Sto)
  | [], S => some ([], S)
  | r :: rs, S => match r.kid S with
    | some (x, S1) => match kids rs S1 with
      | some (xs, S2) => some (x :: xs, S2)
      | none => none
    | none => none
theorem kid_ok {x : SV} (st : Stands K S σ H Φ A F G) (h : RV K Φ H A S σ v r T) (nd : (T ++ (F ++ G)).Nodup) (e : r.kid S = some (x, S')) :
    ∃ Φ' F', Step F G H Φ A F' G H Φ' A ∧ Stands K S' σ H Φ' A F' G ∧ RS K Φ' H A v x T ∧ Frz S S' := by
  cases r with
  | val y => cases e; exact ⟨Φ, F, .refl, st, h, .refl⟩
  | bor i p =>
    unfold R.kid at e
    dsimp only at e
    have other : ∀ d S1, (R.bor i p).esc S = some (d, S1) → x = .dat d → S' = S1 → ∃ Φ' F', Step F G H Φ A F' G H Φ' A ∧ Stands K S' σ H Φ' A F' G ∧ RS K Φ' H A v x T ∧ Frz S S' := fun d S1 e1 ex eS => by
      subst ex eS
      obtain ⟨Φ1, F1, sp1, st1, rp1, fz1⟩ := esc_ok st h nd e1
      obtain ⟨rfl, _⟩ := h
      exact ⟨Φ1, F1, sp1, st1, .dat rp1, fz1⟩
    cases e0 : S.sub i p with
    | none =>
      rw [e0] at e
      cases e1 : (R.bor i p).esc S with
      | none => rw [e1] at e; cases e
      | some dS => obtain ⟨d, S1⟩ := dS; rw [e1] at e; cases e; exact other _ _ e1 rfl rfl
    | some y =>
      rw [e0] at e
      cases y with
      | cell k =>
        cases e
        obtain ⟨U, q, _⟩ := RV.rs st h (show (R.bor i p).sv S = some (.cell k) from e0)
        obtain ⟨rfl, _⟩ := h
        cases q with
        | cell q => exact ⟨Φ, F, .refl, st, .cell q, .refl⟩
      | dat d0 =>
        cases e1 : (R.bor i p).esc S with
        | none => rw [e1] at e; cases e
        | some dS => obtain ⟨d, S1⟩ := dS; rw [e1] at e; cases e; exact other _ _ e1 rfl rfl
      | node n xs =>
        cases e1 : (R.bor i p).esc S with
        | none => rw [e1] at e; cases e
        | some dS => obtain ⟨d, S1⟩ := dS; rw [e1] at e; cases e; exact other _ _ e1 rfl rfl
theorem kids_ok : ∀ {vs : List V} {rs : List R} {T : List Addr} {S : Sto} {Φ : Hp} {F : List Addr} {xs : List SV}, Stands K S σ H Φ A F G → RVs K Φ H A S σ vs rs T → (T ++ (F ++ G)).Nodup → kids rs S = some (xs, S') →
    ∃ Φ' F', Step F G H Φ A F' G H Φ' A ∧ Stands K S' σ H Φ' A F' G ∧ RSs K Φ' H A vs xs T ∧ Frz S S'
  | _, _, _, S, Φ, F, _, st, .nil, nd, e => by
    cases e
    exact ⟨Φ, F, .refl, st, .nil, .refl⟩
  | _, _, _, S, Φ, F, xs, st, .cons (r := r) (rs := rs) (T := T) (U := U) q qs, nd, e => by
    unfold kids at e
    cases e1 : r.kid S with
    | none => rw [e1] at e; cases e
    | some dS =>
      obtain ⟨x, S1⟩ := dS
      rw [e1] at e
      dsimp only at e
      cases e2 : kids rs S1 with
      | none => rw [e2] at e; cases e
      | some dS2 =>
        obtain ⟨xs2, S2⟩ := dS2
        rw [e2] at e; cases e
        obtain ⟨Φ1, F1, sp1, st1, rs1, fz1⟩ := kid_ok st q (nd_left nd) e1
        have qs1 := RVs.step st sp1 fz1 qs (nd_right nd)
        have nd1 : (U ++ (F1 ++ G)).Nodup := sp1.apart (fun b hb => (qs.there b hb).1) (nd_right nd) st1.nd
        obtain ⟨Φ2, F2, sp2, st2, rs2, fz2⟩ := kids_ok st1 qs1 nd1 e2
        have nd2 : (T ++ (F1 ++ G)).Nodup := sp1.apart (fun b hb => (q.there b hb).1) (nd_left nd) st1.nd
        obtain ⟨k1, k2⟩ := sp2.same (T := T) (fun b hb => RS.there rs1 b hb) nd2
        exact ⟨Φ2, F2, sp1.trans0 sp2, st2, .cons (rs1.frame sp2.le sp2.cells k1 k2) rs2, fz1.trans fz2⟩
end
end L3

namespace L3
open PySem PySem.Spec PyProof.Rows L2

/-! ### items of lists and tuples -/
def dats : List SV → Option (List D)
  | [] => some []
  | .dat d :: r => (dats r).map fun ds => d :: ds
  | _ :: _ => none
/-- the items, each frozen; true of a tuple -/
def R.its (S : Sto) (r : R) : Option (Bool × List D) := match r.sv S with
  | some (.dat (.lst ds)) => some (false, ds)
  | some (.dat (.tup ds)) => some (true, ds)
  | some (.dat (.kl ds)) => some (false, ds)
  | some (.node .lst xs) => match r with
    | .val _ => (peeks xs).map fun ds => (false, ds)
    | .bor _ _ => (dats xs).map fun ds => (false, ds)
  | _ => none
section
variable {K : PySem.W.Frag} {W : WX} {S S' : Sto} {σ : Sl} {H Φ : Hp} {A F G T : List Addr} {v : V} {r : R}
theorem dats_rps {A : List Addr} : ∀ {vs : List V} {xs : List SV} {U : List Addr} {ds : List D}, RSs K Φ H A vs xs U → dats xs = some ds → Rps K Φ vs ds
  | _, _, _, ds, .nil, h => by
    have h : (some [] : Option (List D)) = some ds := by rw [← h]; rfl
    cases h; exact .nil
  | _, _, _, ds, .cons (x := x) (xs := xs) q r, h => by
    cases q with
    | dat q =>
      rename_i d0
      have h : (dats xs).map (fun ds => d0 :: ds) = some ds := by rw [← h]; rfl
      cases e2 : dats xs with
      | none => rw [e2] at h; cases h
      | some es => rw [e2] at h; cases h; exact .cons q (dats_rps r e2)
    | node => cases h
    | cell => cases h
/-- a list or a tuple stands there -/
def SeqV (K : PySem.W.Frag) (H : Hp) (a : Addr) (t : Bool) (vs : List V) : Prop := if t = true then SqT K H a vs else SqL K H a vs
theorem its_ok (st : Stands K S σ H Φ A F G) (h : RV K Φ H A S σ v r T) (nd : (T ++ (F ++ G)).Nodup) {t : Bool} {ds : List D} (e : r.its S = some (t, ds)) :
    ∃ Φ' a vs, v = .ref a ∧ SeqV K H a t vs ∧ Rps K Φ' vs ds ∧ Step (T ++ F) G H Φ A F G H Φ' A ∧ Stands K S σ H Φ' A F G := by
  have stay : Step (T ++ F) G H Φ A F G H Φ A := ⟨fun _ _ e _ => e, fun _ _ e => e, fun _ _ e => .inl e, fun b hb => .inl (List.mem_append_right _ hb), fun _ h => .inl h, fun _ h => h, Pfx.refl⟩
  unfold R.its at e
  cases ex : r.sv S with
  | none => rw [ex] at e; cases e
  | some x =>
    rw [ex] at e
    cases x with
    | cell k => cases e
    | dat d =>
      have rp := RV.dat st h ex
      cases d with
      | lst es =>
        cases e
        cases rp with
        | lst q q2 => exact ⟨Φ, _, _, rfl, .inl (.inl (st.le _ _ q)), q2, stay, st⟩
      | kl es =>
        cases e
        cases rp with
        | kl q q2 => exact ⟨Φ, _, _, rfl, sqL_mono st.le q, q2, stay, st⟩
      | tup es =>
        cases e
        cases rp with
        | tup q q2 => exact ⟨Φ, _, _, rfl, .inl (.inl (st.le _ _ q)), q2, stay, st⟩
      | _ => cases e
    | node n xs =>
      cases n with
      | lst =>
        cases r with
        | val y =>
          cases ex
          have e : (peeks xs).map (fun ds => (false, ds)) = some (t, ds) := e
          cases e2 : peeks xs with
          | none => rw [e2] at e; cases e
          | some es =>
            rw [e2] at e; cases e
            have hR : RS K Φ H A v (.node .lst xs) T := h
            obtain ⟨s1, s2⟩ := st.frz (RV.there h) nd
            cases hR with
            | node ea f pa q =>
              refine ⟨_, _, _, rfl, .inl (.inl ea), RSs.freeze (fun b hb => (RV.there h b hb).2) q e2 (fun b hb => List.mem_cons_of_mem _ hb), s2, s1⟩
        | bor i p =>
          have e : (dats xs).map (fun ds => (false, ds)) = some (t, ds) := e
          cases e2 : dats xs with
          | none => rw [e2] at e; cases e
          | some es =>
            rw [e2] at e; cases e
            obtain ⟨U, q, _⟩ := RV.rs st h ex
            cases q with
            | node ea f pa q => exact ⟨Φ, _, _, rfl, .inl (.inl ea), dats_rps q e2, stay, st⟩
      | dK ks => cases e
      | dT ks => cases e
      | ins C dx ks => cases e
end

section
variable {X : Cx} {W : WX} {e a b c : Expr} {pos : Pos} {ta tb tc : TE} {fa fb fc : FE}

/-! ### names, constants -/
def fVar (i : Nat) : FE := fun S => match S.ρ[i]? with
  | some (some _) => some (.ok (.bor i []) S)
  | _ => none
theorem de_var (i : Nat) {x : Str} (hN : X.N[i]? = some x := by rfl) (hv : Vis X.env.scope x := by first | exact Or.inl rfl | exact Or.inr (Or.inl rfl) | exact Or.inr (Or.inr rfl)) (hd : (x == ("__debug__" : Str)) = false := by decide)
    (hcd : (x == ("__classdict__" : Str)) = false := by decide) : DE X W (.Name x pos) (tVar i) (fVar i) := by
  refine ⟨pe_var hN hv hd hcd, fun S σ H Φ A F G st out h Q q => ?_⟩
  unfold fVar at h
  cases e : S.ρ[i]? with
  | none => rw [e] at h; cases h
  | some o =>
    cases o with
    | none => rw [e] at h; cases h
    | some x0 =>
      rw [e] at h; cases h
      obtain ⟨v, F1, Fi, F2, e1, e2, r, _⟩ := st.ro.at e
      refine ⟨v, e1, q v H Φ A [] F G .refl st ⟨rfl, v, e1, fun _ => rfl, fun x hx => ?_⟩ (by simpa using st.nd) .refl⟩
      exact .nil
def fC (d : D) : FE := fun S => some (.ok (.d d) S)
theorem ev_c {K : PySem.W.Frag} {v : V} {d : D} (h : ∀ H, Rp K H v d) : EV K W (tC v) (fC d) := fun S σ H Φ A F G st out ho Q q => by
  cases ho
  exact PostE.dat q st (fun _ hb => hb) (h _)
theorem de_int {i : Int} {j} : DE X W (.Constant (.int i) j pos) (tC (.int i)) (fC (.int i)) := ⟨pe_int, ev_c fun _ => .int i⟩
theorem de_bl {i : Bool} {j} : DE X W (.Constant (.bool i) j pos) (tC (.bl i)) (fC (.bl i)) := ⟨pe_bl, ev_c fun _ => .bl i⟩
theorem de_non {j} : DE X W (.Constant .none j pos) (tC .non) (fC .non) := ⟨pe_non, ev_c fun _ => .non⟩
theorem de_str {x : Str} {j} : DE X W (.Constant (.str x) j pos) (tC (.str x)) (fC (.str x)) := ⟨pe_str, ev_c fun _ => .str x⟩
/-- a constant of the module -/
theorem de_glob {x : Str} {v : V} {u : Value} {d : D} (hm : X.mg x = some u) (r : RelV v u) (hr : ∀ H, Rp X.K H v d) (hg : Gl X x := by rfl) (hd : (x == ("__debug__" : Str)) = false := by decide) : DE X W (.Name x pos) (tC v) (fC d) := ⟨pe_glob hg hm r hd, ev_c hr⟩

/-! ### operators on two values -/
/-- what an operator does with two results -/
abbrev G2 := R → R → Sto → Option (R × Sto)
def OpG (K : PySem.W.Frag) (r : R2) (g : G2) : Prop :=
  ∀ S σ H Φ A F G x y ra rb T U, Stands K S σ H Φ A F G → RV K Φ H A S σ x ra T → RV K Φ H A S σ y rb U → (T ++ (U ++ (F ++ G))).Nodup → ∀ rz S', g ra rb S = some (rz, S') →
    ∀ Q, (∀ v H' Φ' A' V F' G', Step (T ++ (U ++ F)) G H Φ A (V ++ F') G' H' Φ' A' → Stands K S' σ H' Φ' A' F' G' → RV K Φ' H' A' S' σ v rz V → (V ++ (F' ++ G')).Nodup → Frz S S' → Q v H') → r x y H Q
theorem OpG.or {K : PySem.W.Frag} {r r' : R2} {g g' : G2} (h : OpG K r g) (h' : OpG K r' g') : OpG K (fun x y H Q => r x y H Q ∨ r' x y H Q) (fun ra rb S => (g ra rb S).orElse fun _ => g' ra rb S) := by
  intro S σ H Φ A F G x y ra rb T U st rx ry nd rz S' e Q q
  have e : (g ra rb S).orElse (fun _ => g' ra rb S) = some (rz, S') := e
  cases e1 : g ra rb S with
  | some z =>
    rw [e1] at e
    have e : some z = some (rz, S') := e
    cases e
    exact .inl (h S σ H Φ A F G x y ra rb T U st rx ry nd rz S' e1 Q q)
  | none =>
    rw [e1] at e
    exact .inr (h' S σ H Φ A F G x y ra rb T U st rx ry nd rz S' e Q q)
def fBin (g : G2) (fa fb : FE) : FE := bindE fa fun ra => bindE fb fun rb S => (g ra rb S).map fun z => .ok z.1 z.2
theorem ev_bin {K : PySem.W.Frag} {r : R2} {g : G2} (hg : OpG K r g) (ha : EV K W ta fa) (hb : EV K W tb fb) : EV K W (tOp r ta tb) (fBin g fa fb) := fun S σ H Φ A F G st out h Q q => by
  refine run2 ha hb st h q.x fun ra rb S1 x y H1 Φ1 A1 T U F1 G1 sp st1 rx ry nd fz h1 => ?_
  cases e : g ra rb S1 with
  | none => rw [e] at h1; cases h1
  | some z =>
    obtain ⟨rz, S'⟩ := z
    rw [e] at h1; cases h1
    refine hg S1 σ H1 Φ1 A1 F1 G1 x y ra rb T U st1 rx ry nd rz S' e Q fun v H' Φ' A' V F' G' s2 st2 rv nd2 f2 => ?_
    exact q v H' Φ' A' V F' G' (Step.trans (T := []) (T1 := V) (F1 := T ++ (U ++ F1)) sp s2) st2 rv nd2 (fz.trans f2)
theorem de_bin {op : Operator} {r : R2} {g : G2} (ho : OpR X (binaryOp op) r) (hg : OpG X.K r g) (ha : DE X W a ta fa) (hb : DE X W b tb fb) : DE X W (.BinOp a op b pos) (tOp r ta tb) (fBin g fa fb) :=
  ⟨pe_op ho ha.pe hb.pe, ev_bin hg ha.ev hb.ev⟩
theorem de_cmp {op : CmpOp} {r : R2} {g : G2} (ho : OpR X (compareOp op) r) (hg : OpG X.K r g) (ha : DE X W a ta fa) (hb : DE X W b tb fb) (hm : behindInMarks op b = false := by rfl) : DE X W (.Compare a [op] [b] pos) (tOp r ta tb) (fBin g fa fb) :=
  ⟨pe_cmpR ho ha.pe hb.pe hm, ev_bin hg ha.ev hb.ev⟩
/-- the truth value that a result is -/
def R.bl (S : Sto) (r : R) : Option Bool := match r.sv S with
  | some (.dat (.bl b)) => some b
  | _ => none
theorem RV.bl {K : PySem.W.Frag} {S : Sto} {σ : Sl} {H Φ : Hp} {A F G T : List Addr} {v : V} {r : R} (st : Stands K S σ H Φ A F G) (h : RV K Φ H A S σ v r T) {b : Bool} (e : r.bl S = some b) : v = .bl b := by
  unfold R.bl at e
  cases ex : r.sv S with
  | none => rw [ex] at e; cases e
  | some x =>
    rw [ex] at e
    cases x with
    | dat d =>
      cases d with
      | bl c =>
        cases e
        cases RV.dat st h ex
        rfl
      | _ => cases e
    | _ => cases e
def fTest (f : FE) : FT := bindE f fun r S => (r.bl S).map fun b => .ok b S
theorem ev_test {K : PySem.W.Frag} {t : TE} {f : FE} (h : EV K W t f) : EVT K W (tTest t) (fTest f) := fun S σ H Φ A F G st out ho Q q => by
  refine run1 h st ho q.x fun r S1 v H1 Φ1 A1 T F1 G1 sp st1 rv nd fz h1 => ?_
  cases e : r.bl S1 with
  | none => rw [e] at h1; cases h1
  | some b =>
    rw [e] at h1; cases h1
    exact ⟨b, rv.bl st1 e, q H1 Φ1 A1 F1 G1 sp.drop st1 fz⟩
theorem dt_cmp {op : CmpOp} {r : R2} {g : G2} (ho : OpR X (compareOp op) r) (hg : OpG X.K r g) (ha : DE X W a ta fa) (hb : DE X W b tb fb) (hm : behindInMarks op b = false := by rfl) : DT X W (.Compare a [op] [b] pos) (tTest (tOp r ta tb)) (fTest (fBin g fa fb)) :=
  ⟨pt_cmpR ho ha.pe hb.pe hm, ev_test (ev_bin hg ha.ev hb.ev)⟩
theorem dt_val (h : DE X W e ta fa) (he : ∀ whole, isTrue e X.env whole = (do let v ← whole; standAt e.pos; holding [v] (truthy v)) := by intro _; rfl) : DT X W e (tB ta) (fTest fa) :=
  ⟨pt_val h.pe he, ev_test h.ev⟩

/-! ### scalars by their values -/
/-- of two data another one, no heap in sight -/
def g2 (g : D → D → Option D) : G2 := fun ra rb S => match ra.peek S, rb.peek S with
  | some x, some y => (g x y).map fun z => (.d z, S)
  | _, _ => none
theorem opG_scal {K : PySem.W.Frag} {r : R2} {g : D → D → Option D} (h : ∀ H x y dx dy z, Rp K H x dx → Rp K H y dy → g dx dy = some z → ∀ Q, (∀ v, (∀ H', Rp K H' v z) → Q v H) → r x y H Q) : OpG K r (g2 g) := by
  intro S σ H Φ A F G x y ra rb T U st rx ry nd rz S' e Q q
  unfold g2 at e
  cases e1 : ra.peek S with
  | none => rw [e1] at e; cases e
  | some dx =>
    cases e2 : rb.peek S with
    | none => rw [e1, e2] at e; cases e
    | some dy =>
      rw [e1, e2] at e
      cases e3 : g dx dy with
      | none => simp only [e3] at e; cases e
      | some z =>
        simp only [e3] at e
        cases e
        refine h H x y dx dy z (rx.rp st e1) (ry.rp st e2) e3 Q fun v hv => ?_
        exact q v H Φ A [] F G ⟨fun _ _ e _ => e, fun _ _ e => e, fun _ _ e => .inl e, fun b hb => .inl (by simp only [List.nil_append] at hb; simp [hb]), fun _ h => .inl h, fun _ h => h, Pfx.refl⟩ st (RS.dat (hv _)) (by simpa using st.nd) .refl
def dI (f : Int → Int → Option D) : D → D → Option D
  | .int i, .int j => f i j
  | _, _ => none
theorem opG_int {K : PySem.W.Frag} {C : Int → Int → Prop} {f : Int → Int → V} {g : Int → Int → Option D} (h : ∀ i j z, g i j = some z → C i j ∧ ∀ H, Rp K H (f i j) z) : OpG K (rI C f) (g2 (dI g)) := opG_scal fun H x y dx dy z rx ry e Q q => by
  cases rx <;> try cases e
  cases ry <;> try cases e
  obtain ⟨c, r⟩ := h _ _ _ e
  exact ⟨_, _, rfl, rfl, c, q _ r⟩
theorem opG_int0 {K : PySem.W.Frag} {f : Int → Int → V} {g : Int → Int → Option D} (h : ∀ i j z, g i j = some z → ∀ H, Rp K H (f i j) z) : OpG K (rI0 f) (g2 (dI g)) := opG_scal fun H x y dx dy z rx ry e Q q => by
  cases rx <;> try cases e
  cases ry <;> try cases e
  exact ⟨_, _, rfl, rfl, q _ (h _ _ _ e)⟩
def iAdd : Int → Int → Option D := fun i j => some (.int (i + j))
def iSub : Int → Int → Option D := fun i j => some (.int (i - j))
def iMul : Int → Int → Option D := fun i j => if (-(2 ^ 64) < i ∧ i < 2 ^ 64) ∨ (-(2 ^ 64) < j ∧ j < 2 ^ 64) then some (.int (i * j)) else none
def iDiv : Int → Int → Option D := fun i j => if 0 < j ∧ j < 1073741824 then some (.int (i / j)) else none
def iMod : Int → Int → Option D := fun i j => if 0 < j then some (.int (i % j)) else none
def iPow : Int → Int → Option D := fun i j => if 0 ≤ j ∧ j ≤ 1000000 ∧ i.natAbs < 2 ^ 64 then some (.int (i ^ j.toNat)) else none
def iCmp (p : Int → Int → Bool) : Int → Int → Option D := fun i j => some (.bl (p i j))
theorem og_sub {K : PySem.W.Frag} : OpG K (rI0 fun i j => .int (i - j)) (g2 (dI iSub)) := opG_int0 fun i j z e H => by cases e; exact .int _
theorem og_div {K : PySem.W.Frag} : OpG K (rI CDiv fun i j => .int (i / j)) (g2 (dI iDiv)) := opG_int fun i j z e => by
  unfold iDiv at e; split at e
  · cases e; exact ⟨by assumption, fun H => .int _⟩
  · cases e
theorem og_mod {K : PySem.W.Frag} : OpG K (rI (fun _ j => 0 < j) fun i j => .int (i % j)) (g2 (dI iMod)) := opG_int fun i j z e => by
  unfold iMod at e; split at e
  · cases e; exact ⟨by assumption, fun H => .int _⟩
  · cases e
theorem og_pow {K : PySem.W.Frag} : OpG K (rI CPow fun i j => .int (i ^ j.toNat)) (g2 (dI iPow)) := opG_int fun i j z e => by
  unfold iPow at e; split at e
  · cases e; exact ⟨by assumption, fun H => .int _⟩
  · cases e
theorem og_icmp {K : PySem.W.Frag} {p : Int → Int → Bool} : OpG K (rI0 fun i j => .bl (p i j)) (g2 (dI (iCmp p))) := opG_int0 fun i j z e H => by cases e; exact .bl _

/-! ### truth -/
def truD : D → Option Bool
  | .non => some false
  | .bl b => some b
  | .int i => some (i != 0)
  | .str x => if x.length ≤ sizeLine then some ((x.length : Int) != 0) else none
  | .lst ds => some (!ds.isEmpty)
  | .tup ds => some (!ds.isEmpty)
  | .dK ks ds => some (!(ks.zip ds).isEmpty)
  | _ => none
theorem zip_empty {α β γ : Type} : ∀ {ks : List α} {vs : List β} {ds : List γ}, vs.length = ds.length → (!(ks.zip vs).isEmpty) = !(ks.zip ds).isEmpty
  | [], _, _, _ => rfl
  | _ :: _, [], [], _ => rfl
  | _ :: _, _ :: _, _ :: _, _ => rfl
  | _ :: _, [], _ :: _, h => by simp at h
  | _ :: _, _ :: _, [], h => by simp at h
theorem sqL_of_rd {K : PySem.W.Frag} {H : Hp} {a : Addr} {xs : List V} (h : Rd H a (.lst xs)) : SqL K H a xs := .inl h
theorem isEmpty_rps {K : PySem.W.Frag} {H : Hp} {vs : List V} {ds : List D} (h : Rps K H vs ds) : (!vs.isEmpty) = !ds.isEmpty := by cases h <;> rfl
/-- a result's truth; of a dict, an owned or a frozen one not locked -/
def R.tru (S : Sto) (r : R) : Option Bool := match r.sv S with
  | some (.dat (.dK _ _)) => none
  | some x => x.peek.bind truD
  | none => none
theorem RV.tru {K : PySem.W.Frag} {S : Sto} {σ : Sl} {H Φ : Hp} {A F G T : List Addr} {v : V} {r : R} (st : Stands K S σ H Φ A F G) (h : RV K Φ H A S σ v r T) {k : Bool} (e : r.tru S = some k) : TruV K v H k := by
  unfold R.tru at e
  cases ex : r.sv S with
  | none => rw [ex] at e; cases e
  | some x =>
    obtain ⟨U, q, _⟩ := RV.rs st h ex
    rw [ex] at e
    cases x with
    | cell k => cases e
    | dat d =>
      cases q with
      | dat q =>
        cases d with
        | dK ks ds => cases e
        | dT ks ds => cases e
        | fn f => cases e
        | kl ds => cases e
        | kt ds => cases e
        | non => cases e; cases q; rfl
        | bl b => cases e; cases q; rfl
        | int i => cases e; cases q; rfl
        | str x =>
          have e : (if x.length ≤ sizeLine then some ((x.length : Int) != 0) else none) = some k := e
          split at e
          · cases e; cases q; exact ⟨by assumption, rfl⟩
          · cases e
        | lst ds =>
          cases e
          cases q with
          | lst q q2 => exact .inl ⟨_, .inl (.inl (st.le _ _ q)), (isEmpty_rps q2).symm⟩
        | tup ds =>
          cases e
          cases q with
          | tup q q2 => exact .inr (.inl ⟨_, .inl (.inl (st.le _ _ q)), (isEmpty_rps q2).symm⟩)
    | node n xs =>
      cases q with
      | node ea f pa q =>
        cases n with
        | lst =>
          have e : ((peeks xs).map D.lst).bind truD = some k := e
          cases e2 : peeks xs with
          | none => rw [e2] at e; cases e
          | some ds =>
            rw [e2] at e; cases e
            exact .inl ⟨_, .inl (.inl ea), (isEmpty_rps (RSs.rp st.le q e2)).symm⟩
        | dK ks =>
          have e : ((peeks xs).map (D.dK ks)).bind truD = some k := e
          cases e2 : peeks xs with
          | none => rw [e2] at e; cases e
          | some ds =>
            rw [e2] at e; cases e
            exact .inr (.inr ⟨_, ea, (zip_empty (RSs.rp st.le q e2).length).symm⟩)
        | dT ks =>
          have e : ((peeks xs).map (D.dT ks)).bind truD = some k := e
          cases e2 : peeks xs <;> rw [e2] at e <;> cases e
        | ins C dx ks => cases e
def fTru (f : FE) : FT := bindE f fun r S => (r.tru S).map fun b => .ok b S
theorem dt_truth (h : DE X W e ta fa) (he : ∀ whole, isTrue e X.env whole = (do let v ← whole; standAt e.pos; holding [v] (truthy v)) := by intro _; rfl) : DT X W e (fun σ H Q => ta σ H fun x H' => ∃ k, TruV X.K x H' k ∧ Q k H') (fTru fa) := by
  refine ⟨pt_truth h.pe he, fun S σ H Φ A F G st out ho Q q => ?_⟩
  refine run1 h.ev st ho q.x fun r S1 v H1 Φ1 A1 T F1 G1 sp st1 rv nd fz h1 => ?_
  cases e1 : r.tru S1 with
  | none => rw [e1] at h1; cases h1
  | some b =>
    rw [e1] at h1; cases h1
    exact ⟨b, rv.tru st1 e1, q H1 Φ1 A1 F1 G1 sp.drop st1 fz⟩

/-! ### and, or, not; one of two -/
variable {tA tB' : TT} {fA fB : FT} {rest : List Expr}
def fAnd (fa fb : FT) : FT := bindE fa fun c => if c = true then fb else retE false
def fOr (fa fb : FT) : FT := bindE fa fun c => if c = true then retE true else fb
def fNot (fa : FT) : FT := bindE fa fun c => retE (!c)
def fIfE (fc : FT) (fa fb : FE) : FE := bindE fc fun c => if c = true then fa else fb
theorem evt_at {K : PySem.W.Frag} {S S1 : Sto} {σ : Sl} {H Φ H1 Φ1 : Hp} {A A1 F G F1 G1 : List Addr} {out : Out Bool} {Q : Bool → Hp → Prop} (q : PostT K W S σ H Φ A F G Q out) (sp : Step F G H Φ A F1 G1 H1 Φ1 A1) (fz : Frz S S1) : PostT K W S1 σ H1 Φ1 A1 F1 G1 Q out := by
  cases out with
  | ok b S' => exact fun H' Φ' A' F' G' s2 st f2 => q H' Φ' A' F' G' (sp.trans0 s2) st (fz.trans f2)
  | exc e S' => exact fun c d H' Φ' A' F' G' s2 st rx f2 => q c d H' Φ' A' F' G' (sp.trans0 s2) st rx (fz.trans f2)
theorem ev_and {K : PySem.W.Frag} {t u : TT} {fa fb : FT} (ha : EVT K W t fa) (hb : EVT K W u fb) : EVT K W (tAnd t u) (fAnd fa fb) := fun S σ H Φ A F G st out ho Q q => by
  refine runT (t := t) ha st ho q.x fun b S1 H1 Φ1 A1 F1 G1 sp st1 fz h1 => ?_
  cases b with
  | true => rw [if_pos rfl] at h1 ⊢; exact hb S1 σ H1 Φ1 A1 F1 G1 st1 out h1 Q (evt_at q sp fz)
  | false => rw [if_neg (by decide)] at h1 ⊢; cases h1; exact q H1 Φ1 A1 F1 G1 sp st1 fz
theorem ev_or {K : PySem.W.Frag} {t u : TT} {fa fb : FT} (ha : EVT K W t fa) (hb : EVT K W u fb) : EVT K W (tOr t u) (fOr fa fb) := fun S σ H Φ A F G st out ho Q q => by
  refine runT (t := t) ha st ho q.x fun b S1 H1 Φ1 A1 F1 G1 sp st1 fz h1 => ?_
  cases b with
  | true => rw [if_pos rfl] at h1 ⊢; cases h1; exact q H1 Φ1 A1 F1 G1 sp st1 fz
  | false => rw [if_neg (by decide)] at h1 ⊢; exact hb S1 σ H1 Φ1 A1 F1 G1 st1 out h1 Q (evt_at q sp fz)
theorem dw_and1 (h : DT X W a tA fA) : DW X W (.BoolOp .And [a] pos) tA fA := ⟨pw_and1 h.pe, h.ev⟩
theorem dw_or1 (h : DT X W a tA fA) : DW X W (.BoolOp .Or [a] pos) tA fA := ⟨pw_or1 h.pe, h.ev⟩
theorem dw_and (h : DT X W a tA fA) (h2 : DW X W (.BoolOp .And (b :: rest) pos) tB' fB) : DW X W (.BoolOp .And (a :: b :: rest) pos) (tAnd tA tB') (fAnd fA fB) := ⟨pw_and h.pe h2.pe, ev_and h.ev h2.ev⟩
theorem dw_or (h : DT X W a tA fA) (h2 : DW X W (.BoolOp .Or (b :: rest) pos) tB' fB) : DW X W (.BoolOp .Or (a :: b :: rest) pos) (tOr tA tB') (fOr fA fB) := ⟨pw_or h.pe h2.pe, ev_or h.ev h2.ev⟩
theorem DW.dt (h : DW X W e tA fA) : DT X W e tA fA := ⟨h.pe.pt, h.ev⟩
theorem dt_not (h : DT X W a tA fA) : DT X W (.UnaryOp .Not a pos) (tNot tA) (fNot fA) := ⟨pt_not h.pe, fun S σ H Φ A F G st out ho Q q => by
  refine runT (t := tA) h.ev st ho q.x fun b S1 H1 Φ1 A1 F1 G1 sp st1 fz h1 => ?_
  cases h1
  exact q H1 Φ1 A1 F1 G1 sp st1 fz⟩
theorem PostE.at0 {K : PySem.W.Frag} {S S1 : Sto} {σ : Sl} {H Φ H1 Φ1 : Hp} {A A1 F G F1 G1 : List Addr} {out : Out R} {Q : VK} (q : PostE K W S σ H Φ A F G Q out) (sp : Step F G H Φ A F1 G1 H1 Φ1 A1) (fz : Frz S S1) : PostE K W S1 σ H1 Φ1 A1 F1 G1 Q out := PostE.at (T := []) q sp fz
theorem de_ifE (hc : DT X W c tA fA) (ha : DE X W a ta fa) (hb : DE X W b tb fb) : DE X W (.IfExp c a b pos) (tIf tA ta tb) (fIfE fA fa fb) := ⟨pe_ifExp hc.pe ha.pe hb.pe, fun S σ H Φ A F G st out ho Q q => by
  refine runT hc.ev st ho q.x fun b S1 H1 Φ1 A1 F1 G1 sp st1 fz h1 => ?_
  cases b with
  | true => rw [if_pos rfl] at h1 ⊢; exact ha.ev S1 σ H1 Φ1 A1 F1 G1 st1 out h1 Q (q.at0 sp fz)
  | false => rw [if_neg (by decide)] at h1 ⊢; exact hb.ev S1 σ H1 Φ1 A1 F1 G1 st1 out h1 Q (q.at0 sp fz)⟩
/-- x or y, x and y as values, by truth -/
def fOrV (fa fb : FE) : FE := bindE fa fun r S => match r.tru S with
  | some true => some (.ok r S)
  | some false => fb S
  | none => none
def fAndV (fa fb : FE) : FE := bindE fa fun r S => match r.tru S with
  | some true => fb S
  | some false => some (.ok r S)
  | none => none
def fNotV (fa : FE) : FE := bindE fa fun r S => (r.tru S).map fun k => .ok (.b (!k)) S
theorem de_orV (ha : DE X W a ta fa) (hb : DE X W (.BoolOp .Or (b :: rest) pos) tb fb) : DE X W (.BoolOp .Or (a :: b :: rest) pos) (tOrT X.K ta tb) (fOrV fa fb) := ⟨pe_orT ha.pe hb.pe, fun S σ H Φ A F G st out ho Q q => by
  refine run1 (t := ta) ha.ev st ho q.x fun r S1 v H1 Φ1 A1 T F1 G1 sp st1 rv nd fz h1 => ?_
  cases e : r.tru S1 with
  | none => rw [e] at h1; cases h1
  | some k =>
    rw [e] at h1
    refine ⟨k, rv.tru st1 e, ?_⟩
    cases k with
    | true => rw [if_pos rfl]; cases h1; exact q v H1 Φ1 A1 T F1 G1 sp st1 rv nd fz
    | false => rw [if_neg (by decide)]; exact hb.ev S1 σ H1 Φ1 A1 F1 G1 st1 out h1 Q (q.at0 sp.drop fz)⟩
theorem de_andV (ha : DE X W a ta fa) (hb : DE X W (.BoolOp .And (b :: rest) pos) tb fb) : DE X W (.BoolOp .And (a :: b :: rest) pos) (tAndT X.K ta tb) (fAndV fa fb) := ⟨pe_andT ha.pe hb.pe, fun S σ H Φ A F G st out ho Q q => by
  refine run1 (t := ta) ha.ev st ho q.x fun r S1 v H1 Φ1 A1 T F1 G1 sp st1 rv nd fz h1 => ?_
  cases e : r.tru S1 with
  | none => rw [e] at h1; cases h1
  | some k =>
    rw [e] at h1
    refine ⟨k, rv.tru st1 e, ?_⟩
    cases k with
    | true => rw [if_pos rfl]; exact hb.ev S1 σ H1 Φ1 A1 F1 G1 st1 out h1 Q (q.at0 sp.drop fz)
    | false => rw [if_neg (by decide)]; cases h1; exact q v H1 Φ1 A1 T F1 G1 sp st1 rv nd fz⟩
theorem de_one {op : BoolOp} (h : DE X W a ta fa) : DE X W (.BoolOp op [a] pos) ta fa := ⟨pe_one h.pe, h.ev⟩
theorem de_notV (ha : DE X W a ta fa) : DE X W (.UnaryOp .Not a pos) (tNotT X.K ta) (fNotV fa) := ⟨pe_notT ha.pe, fun S σ H Φ A F G st out ho Q q => by
  refine run1 (t := ta) ha.ev st ho q.x fun r S1 v H1 Φ1 A1 T F1 G1 sp st1 rv nd fz h1 => ?_
  cases e : r.tru S1 with
  | none => rw [e] at h1; cases h1
  | some k =>
    rw [e] at h1; cases h1
    exact ⟨k, rv.tru st1 e, q _ H1 Φ1 A1 [] F1 G1 (by simpa using sp.drop) st1 (RS.dat (.bl _)) (by simpa using st1.nd) fz⟩⟩
end
end L3

namespace L3
open PySem PySem.Spec PyProof.Rows L2

/-! ### calls of the text's own defs, where nothing is being shown (repr) -/
/-- as FnOk, its caller known to show nothing -/
structure FG (P : Program) (w : World) (K : PySem.W.Frag) (mg : Str → Option Value) (base : Heap) (k : Nat) (f : Addr) (fd : FuncData) (ps : List Str) (sp : Sp) : Prop where
  len : ∀ vs H Q E, sp vs H Q E → vs.length = ps.length
  go : ∀ (A : Around) (outer : List Env) (s : Shared) (H : Hp) (args : Args) (us : List Value) (vs : List V) (Q : VK) (E : XK), Room k A → A.guards = some [] →
    Env0 P w K mg base A outer s H → BindsTo s fd args (ps.zip us) → Vals vs us → sp vs H Q E → codeAny (model P w) A (.call (.ref f) args) (CR (L2.CX P w) outer P w H s Q E) s
/-- a def as it stands behind the top, whatever its defaults (dV) -/
structure FunV (K : PySem.W.Frag) (x qual : Str) (st : Stmt) (f : Addr) (fd : FuncData) (dV : Value) : Prop where
  ex : ∃ (oc : Value) (od : Option Addr) (kV doc pm : Value) (an : Option Addr) (cdv ct : Value) (osl : Array (Option Value)),
    fd = PySem.W.fnOf x qual (defArgs st) (defBody st) (defScope st) dV kV doc pm an cdv ct ∧ K.lookup f = some ⟨oc, od, .func fd, osl⟩ ∧ PySem.W.codeIn K cdv qual = true
  kp : PySem.W.keepIn K (.ref f) = true
theorem funV_mk {K : PySem.W.Frag} {x qual : Str} {st : Stmt} {f : Addr} {oc : Value} {od an : Option Addr} {osl : Array (Option Value)} {dV kV doc pm cdv ct : Value} (l : K.lookup f = some ⟨oc, od, .func (PySem.W.fnOf x qual (defArgs st) (defBody st) (defScope st) dV kV doc pm an cdv ct), osl⟩)
    (c : PySem.W.codeIn K cdv qual = true) (k : PySem.W.keepIn K (.ref f) = true) : FunV K x qual st f (PySem.W.fnOf x qual (defArgs st) (defBody st) (defScope st) dV kV doc pm an cdv ct) dV := ⟨⟨oc, od, kV, doc, pm, an, cdv, ct, osl, rfl, l, c⟩, k⟩
theorem FunV.binds {K : PySem.W.Frag} {x qual : Str} {st : Stmt} {f : Addr} {fd : FuncData} {ps : List Str} (F : FunV K x qual st f fd .none)
    (h : ∀ (kV doc pm : Value) (an : Option Addr) (cdv ct : Value) (us : List Value), us.length = ps.length → bindArgs (PySem.W.fnOf x qual (defArgs st) (defBody st) (defScope st) .none kV doc pm an cdv ct) ⟨us, []⟩ = pure (ps.zip us)) : Binds K fd ps [] := by
  obtain ⟨oc, od, kV, doc, pm, an, cdv, ct, osl, rfl, lk, hcd⟩ := F.ex
  exact .all (h kV doc pm an cdv ct)
section
variable {P : Program} {w : World} {K : PySem.W.Frag} {mg : Str → Option Value} {base : Heap}
theorem FG.mono {j k : Nat} {f : Addr} {fd : FuncData} {ps : List Str} {sp : Sp} (h : FG P w K mg base j f fd ps sp) (le : j ≤ k) : FG P w K mg base k f fd ps sp :=
  ⟨h.len, fun A o s H ar us vs Q E r => h.go A o s H ar us vs Q E (r.mono le)⟩
/-- by its body -/
theorem fg_of {x qual : Str} {st : Stmt} {f : Addr} {fd : FuncData} {dV : Value} {N ps : List Str} {k : Nat} {sp : Sp} (T : FunV K x qual st f fd dV) (C : FnScope N ps (defScope st)) (len : ∀ vs H Q E, sp vs H Q E → vs.length = ps.length)
    (body : ∀ (cdv : Value) (A : Around) (outer : List Env) (s : Shared) (H : Hp) (vs : List V) (Q : VK) (E : XK), Room k (A.deeper (envOfC qual (defScope st) s.heap.objs.size f cdv)) → A.guards = some [] → sp vs H Q E →
      ∃ t, PSs (cxOf (L2.CX P w) P w K mg base N qual (defScope st) f cdv A outer s H E) (defBody st) t ∧ t { nx := fun _ H' => Q .non H', rt := Q } (start N vs) H) : FG P w K mg base (k + 1) f fd ps sp := by
  obtain ⟨oc, od, kV, doc, pm, an, cdv, ct, osl, e, lk, ck⟩ := T.ex
  subst e
  refine ⟨len, fun A outer s H args us vs Q E room gd e0 bd rel want => ?_⟩
  have kx : K.In s.heap := e0.mod.kin.keeps (fun b o q => (e0.bs b o q).1)
  have nl : s.heap.NoLimit := e0.mod.nolimit.keeps (fun b o q => (e0.bs b o q).1)
  have many := len vs H Q E want
  have kinds : ∀ y, y ∈ ps.zip us → (defScope st).names.lookup y.1 = some .local ∨ ((defScope st).names.lookup y.1 = some .cell ∧ ((cellsFrom (s.heap.objs.size + 1) (defScope st).names []).lookup y.1).isSome = true) := by
    rintro ⟨n, u⟩ hy
    have hn : n ∈ ps := (List.of_mem_zip hy).1
    exact (C.par n hn).imp id (fun q => ⟨q, PySem.W.cellsFrom_some _ _ _ (Or.inl q)⟩)
  apply codeAny_call_function (Room.depth room) (kx f _ lk) rfl C.co C.gen rfl (PySem.W.codeRec_of kx ck)
  refine bd _ _ _ _ (wpAny_newFunctionEnv_cells C.kind kinds (fun en ee s1 xx => ?_))
  cases ee
  refine ⟨nl.keeps xx.toInCall.keep, ?_⟩
  apply codeAny_func
  obtain ⟨t, pt, tq⟩ := body cdv A outer s H vs Q E (Room.deeper room _) gd want
  have iv := inv_start (CX := L2.CX P w) (N := N) (E := E) C (Room.hd room) e0 many rel xx
  have endOf : ∀ {σ' : Sl} {H' : Hp} {v : V} {u : Value} {s' : Shared}, Inv (cxOf (L2.CX P w) P w K mg base N qual (defScope st) f cdv A outer s H E) [] σ' H' s' → RelV v u → Q v H' → CE outer P w H s Q u s' := by
    intro σ' H' v u s' j rv qv
    exact ⟨v, H', j.os, j.bare, j.base, j.hok, rv, qv⟩
  refine wpAny_mono (pt.run [] s1 (start N vs) H _ iv tq) ?_ (fun _ _ q => q)
  intro fl s' post
  match fl, post with
  | .ret u, ⟨v, σ', H', j, rv, qv⟩ => exact endOf j rv qv
  | .next, ⟨σ', H', j, qv⟩ => exact endOf (v := V.non) (u := Value.none) j rfl qv
  | .brk, ⟨_, _, _, z⟩ => exact z.elim
  | .cont, ⟨_, _, _, z⟩ => exact z.elim
end

section
variable {X : Cx} {k : Nat} {f : Addr} {fd : FuncData} {ps : List Str} {sp : Sp} {W : WX} {x : Str} {p pos : Pos} {e : Expr} {es : List Expr} {t : TA} {ds : List Value} {dvs : List V}
theorem go_fn {pins : List (Addr × Obj)} {σ : Sl} {H : Hp} {s : Shared} {Q : VK} {us : List Value} {vs : List V} (h : FG X.prog X.w X.K X.mg X.base k f fd ps sp) (room : Room k X.A) (gd : X.A.guards = some []) (bd : Binds X.K fd ps ds) (dd : Vals dvs ds) (tk : Takes X W)
    (I : Inv X pins σ H s) (rel : Vals vs us) (want : sp (vs ++ dvs) H Q (WE W σ)) : wpAny (model X.prog X.w) X.A (call (.ref f) us) (EP X pins σ Q) X.xe s := by
  have rel2 := rel.append dd
  have many : (us ++ ds).length = ps.length := rel2.length.symm.trans (h.len _ _ _ _ want)
  apply wpAny_call
  refine codeAny_mono (h.go X.A X.stack s H ⟨us, []⟩ (us ++ ds) (vs ++ dvs) Q (WE W σ) room gd I.env0 (bd s us I.kIn many) rel2 want) ?_
  intro r s' post
  match r, post with
  | .error e, z => exact passAt tk σ pins H s e s' I z
  | .ok (.ret u), z => exact I.after z
  | .ok .next, z => exact z.elim
  | .ok .brk, z => exact z.elim
  | .ok .cont, z => exact z.elim
def tGo (W : WX) (sp : Sp) (dvs : List V) (t : TA) : TE := fun σ H Q => t σ H fun vs H1 => sp (vs ++ dvs) H1 Q (WE W σ)
theorem pe_go (h : FG X.prog X.w X.K X.mg X.base k f fd ps sp) (room : Room k X.A) (gd : X.A.guards = some []) (hg : Gl X x) (hm : X.mg x = some (.ref f)) (hk : PySem.W.keepIn X.K (.ref f) = true) (bd : Binds X.K fd ps ds) (dd : Vals dvs ds) (tk : Takes X W)
    (ha : PA X (e :: es) t) (hdb : (x == ("__debug__" : Str)) = false := by decide) (he : starEach (e :: es) X.env = (false, eval e X.env) :: starEach es X.env := by rfl) (hpl : (backTo pos (starEach es X.env)).any (·.1) = false := by rfl) : PE X (.Call (.Name x p) (e :: es) [] pos) (tGo W sp dvs t) :=
  ⟨fun pins s σ H Q I want => wpAny_Call_Name_kw (ld_glob I hg hm (PySem.W.callWith_K (h₀ := X.base) I.ok.mod.kin hk (thn (ha.run pos pins s σ H _ I want) fun us s1 ⟨vs, H1, I1, rel, w1⟩ => ⟨I1.kIn, go_fn h room gd bd dd tk I1 rel w1⟩) he hpl) hdb)⟩
theorem pe_go0 (h : FG X.prog X.w X.K X.mg X.base k f fd ps sp) (room : Room k X.A) (gd : X.A.guards = some []) (hg : Gl X x) (hm : X.mg x = some (.ref f)) (hk : PySem.W.keepIn X.K (.ref f) = true) (bd : Binds X.K fd ps ds) (dd : Vals dvs ds) (tk : Takes X W)
    (hdb : (x == ("__debug__" : Str)) = false := by decide) : PE X (.Call (.Name x p) [] [] pos) (tGo W sp dvs tNil) :=
  ⟨fun pins s σ H Q I want => wpAny_Call_Name_kw (ld_glob I hg hm (PySem.W.callWith_K0 I.kIn hk (go_fn (us := []) h room gd bd dd tk I .nil want)) hdb)⟩
end

/-! ### what a def does to data -/
inductive Res where
  | ok (x : SV) (μ : List SV) | exc (e : Ex) (μ : List SV)
/-- a def as a function of its arguments (data, cells) and the cells -/
abbrev FnS := List SV → List SV → Option Res
def PostF (K : PySem.W.Frag) (H Φ : Hp) (A G : List Addr) (Q : VK) (E : XK) : Res → Prop
  | .ok x μ => ∀ v H' Φ' A' T G', Step [] G H Φ A T G' H' Φ' A' → Stands K ⟨[], μ⟩ [] H' Φ' A' [] G' → RS K Φ' H' A' v x T → (T ++ G').Nodup → Q v H'
  | .exc e μ => ∀ c d H' Φ' A' G', Step [] G H Φ A [] G' H' Φ' A' → Stands K ⟨[], μ⟩ [] H' Φ' A' [] G' → RX K Φ' H' e c d → E c d H'
def spF (K : PySem.W.Frag) (n : Nat) (f : FnS) : Sp := fun vs H Q E => vs.length = n ∧ ∃ Φ A G μ as res, Stands K ⟨[], μ⟩ [] H Φ A [] G ∧ RSs K Φ H A vs as [] ∧ f as μ = some res ∧ PostF K H Φ A G Q E res

/-- an argument: frozen, or a cell -/
def R.arg (S : Sto) (r : R) : Option (SV × Sto) := match r.sv S with
  | some (.cell k) => some (.cell k, S)
  | _ => match r.esc S with
    | some (d, S1) => some (.dat d, S1)
    | none => none
def argsOf : List R → Sto → Option (List SV × Sto)
  | [], S => some ([], S)
  | r :: rs, S => match r.arg S with
    | some (x, S1) => match argsOf rs S1 with
      | some (xs, S2) => some (x :: xs, S2)
      | none => none
    | none => none
section
variable {K : PySem.W.Frag} {W : WX} {S S' : Sto} {σ : Sl} {H Φ : Hp} {A F G T : List Addr} {v : V} {r : R}
theorem arg_ok {x : SV} (st : Stands K S σ H Φ A F G) (h : RV K Φ H A S σ v r T) (nd : (T ++ (F ++ G)).Nodup) (e : r.arg S = some (x, S')) :
    ∃ Φ' F', Step (T ++ F) G H Φ A F' G H Φ' A ∧ Stands K S' σ H Φ' A F' G ∧ RS K Φ' H A v x [] ∧ Frz S S' := by
  have other : ∀ d S1, r.esc S = some (d, S1) → x = .dat d → S' = S1 → ∃ Φ' F', Step (T ++ F) G H Φ A F' G H Φ' A ∧ Stands K S' σ H Φ' A F' G ∧ RS K Φ' H A v x [] ∧ Frz S S' := fun d S1 e1 ex eS => by
    subst ex eS
    obtain ⟨Φ1, F1, sp1, st1, rp1, fz1⟩ := esc_ok st h nd e1
    exact ⟨Φ1, F1, sp1, st1, .dat rp1, fz1⟩
  have go : (match r.esc S with | some (d, S1) => some (SV.dat d, S1) | none => none) = some (x, S') → ∃ Φ' F', Step (T ++ F) G H Φ A F' G H Φ' A ∧ Stands K S' σ H Φ' A F' G ∧ RS K Φ' H A v x [] ∧ Frz S S' := fun e => by
    cases e1 : r.esc S with
    | none => rw [e1] at e; cases e
    | some dS => obtain ⟨d, S1⟩ := dS; rw [e1] at e; cases e; exact other _ _ e1 rfl rfl
  unfold R.arg at e
  cases ex : r.sv S with
  | none => rw [ex] at e; exact go e
  | some y =>
    rw [ex] at e
    cases y with
    | dat d => exact go e
    | node n xs => exact go e
    | cell k =>
      cases e
      obtain ⟨U, q, _⟩ := RV.rs st h ex
      cases q with
      | cell q => exact ⟨Φ, F, ⟨fun _ _ e _ => e, fun _ _ e => e, fun _ _ e => .inl e, fun b hb => .inl (List.mem_append_right _ hb), fun _ h => .inl h, fun _ h => h, Pfx.refl⟩, st, .cell q, .refl⟩
theorem args_ok : ∀ {vs : List V} {rs : List R} {T : List Addr} {S : Sto} {Φ : Hp} {F : List Addr} {xs : List SV}, Stands K S σ H Φ A F G → RVs K Φ H A S σ vs rs T → (T ++ (F ++ G)).Nodup → argsOf rs S = some (xs, S') →
    ∃ Φ' F', Step (T ++ F) G H Φ A F' G H Φ' A ∧ Stands K S' σ H Φ' A F' G ∧ RSs K Φ' H A vs xs [] ∧ Frz S S'
  | _, _, _, S, Φ, F, _, st, .nil, nd, e => by
    cases e
    exact ⟨Φ, F, by rw [List.nil_append]; exact .refl, st, .nil, .refl⟩
  | _, _, _, S, Φ, F, xs, st, .cons (r := r) (rs := rs) (T := T) (U := U) q qs, nd, e => by
    unfold argsOf at e
    cases e1 : r.arg S with
    | none => rw [e1] at e; cases e
    | some dS =>
      obtain ⟨x, S1⟩ := dS
      rw [e1] at e
      dsimp only at e
      cases e2 : argsOf rs S1 with
      | none => rw [e2] at e; cases e
      | some dS2 =>
        obtain ⟨xs2, S2⟩ := dS2
        rw [e2] at e; cases e
        obtain ⟨Φ1, F1, sp1, st1, rp1, fz1⟩ := arg_ok st q (nd_left nd) e1
        have nd' : (U ++ ((T ++ F) ++ G)).Nodup := by
          simp only [List.nodup_append, List.mem_append] at nd ⊢; grind
        have qs1 := RVs.step' st sp1 fz1 qs nd'
        have nd1 : (U ++ (F1 ++ G)).Nodup := sp1.apart (fun b hb => (qs.there b hb).1) nd' st1.nd
        obtain ⟨Φ2, F2, sp2, st2, rp2, fz2⟩ := args_ok st1 qs1 nd1 e2
        have s3 : Step ((T ++ U) ++ F) G H Φ A (U ++ F1) G H Φ1 A := ⟨fun _ _ e _ => e, sp1.le, fun b o e => by
            rcases sp1.grow b o e with h | h | h | h
            · exact .inl h
            · exact .inr (.inl (by simp only [List.mem_append] at h ⊢; grind))
            · exact .inr (.inr (.inl h))
            · exact .inr (.inr (.inr h)), fun b hb => by
            rcases List.mem_append.mp hb with h | h
            · exact .inl (by simp [h])
            · rcases sp1.ownF b h with h | h | h
              · exact .inl (by simp only [List.mem_append] at h ⊢; grind)
              · exact .inr (.inl h)
              · exact .inr (.inr h), fun _ h => .inl h, fun _ h => h, Pfx.refl⟩
        have r1 : RSs K Φ2 H A _ (x :: xs2) ([] ++ []) := .cons (rp1.frame sp2.le Pfx.refl (fun _ _ => rfl) (fun b hb => by simp at hb)) rp2
        exact ⟨Φ2, F2, s3.trans0 sp2, st2, r1, fz1.trans fz2⟩
theorem RSs.app {A : List Addr} : ∀ {vs ws : List V} {xs ys : List SV} {F1 F2 : List Addr}, RSs K Φ H A vs xs F1 → RSs K Φ H A ws ys F2 → RSs K Φ H A (vs ++ ws) (xs ++ ys) (F1 ++ F2)
  | _, _, _, _, _, _, .nil, s => s
  | _, _, _, _, _, _, .cons q r, s => by rw [List.append_assoc]; exact .cons q (RSs.app r s)
end
/-- the call of a def that does f, the defaults behind the arguments -/
def fGo (f : FnS) (dfl : List SV) (fa : FA) : FE := bindE fa fun rs S => match argsOf rs S with
  | some (as, S1) => match f (as ++ dfl) S1.μ with
    | some (.ok x μ) => some (.ok (.val x) { S1 with μ := μ })
    | some (.exc e μ) => some (.exc e { S1 with μ := μ })
    | none => none
  | none => none
/-- defaults: data wherever -/
def Dfl (K : PySem.W.Frag) (dvs : List V) (dfl : List SV) : Prop := ∀ Φ H A, RSs K Φ H A dvs dfl []
theorem dfl_nil {K : PySem.W.Frag} : Dfl K [] [] := fun _ _ _ => .nil
theorem dfl_cons {K : PySem.W.Frag} {v : V} {d : D} {vs : List V} {xs : List SV} (h : ∀ H, Rp K H v d) (t : Dfl K vs xs) : Dfl K (v :: vs) (.dat d :: xs) := fun Φ H A => .cons (F := []) (.dat (h _)) (t Φ H A)
theorem frz_mu {S : Sto} {μ : List SV} : Frz S { S with μ := μ } := Frz.of rfl
theorem ev_go {K : PySem.W.Frag} {W : WX} {f : FnS} {n : Nat} {dvs : List V} {dfl : List SV} {t : TA} {fa : FA} (hd : Dfl K dvs dfl) (hl : ∀ as μ res, f as μ = some res → as.length = n) (ha : EVA K W t fa) : EV K W (tGo W (spF K n f) dvs t) (fGo f dfl fa) := fun S σ H Φ A F G st out ho Q q => by
  refine runA (t := t) ha st ho q.x fun rs S1 vs H1 Φ1 A1 T F1 G1 sp st1 rv nd fz h1 => ?_
  cases e1 : argsOf rs S1 with
  | none => rw [e1] at h1; cases h1
  | some aS =>
    obtain ⟨as, S2⟩ := aS
    rw [e1] at h1
    dsimp only at h1
    obtain ⟨Φ2, F2, sp2, st2, r2, fz2⟩ := args_ok st1 rv nd e1
    have rall : RSs K Φ2 H1 A1 (vs ++ dvs) (as ++ dfl) [] := r2.app (hd Φ2 H1 A1)
    cases e2 : f (as ++ dfl) S2.μ with
    | none => rw [e2] at h1; cases h1
    | some res =>
      rw [e2] at h1
      have s02 : Step F G H Φ A F2 G1 H1 Φ2 A1 := sp.trans0 sp2
      have st0 : Stands K ⟨[], S2.μ⟩ [] H1 Φ2 A1 [] G1 := ⟨st2.le, .nil, st2.rc, (List.nodup_append.mp st2.nd).2.1⟩
      refine ⟨by rw [rall.length]; exact hl _ _ _ e2, Φ2, A1, G1, S2.μ, as ++ dfl, res, st0, rall, e2, ?_⟩
      have both : ∀ {H' Φ' : Hp} {A' T' G' : List Addr} {μ' : List SV}, Step [] G1 H1 Φ2 A1 T' G' H' Φ' A' → Stands K ⟨[], μ'⟩ [] H' Φ' A' [] G' → (T' ++ G').Nodup →
          Step F2 G1 H1 Φ2 A1 (T' ++ F2) G' H' Φ' A' ∧ Stands K { S2 with μ := μ' } σ H' Φ' A' F2 G' ∧ (T' ++ (F2 ++ G')).Nodup := fun {H' Φ' A' T' G' μ'} sp3 st3 nd3 => by
        have nd0 : (F2 ++ ([] ++ G1)).Nodup := st2.nd
        obtain ⟨k1, k2⟩ := sp3.same (T := F2) (fun b hb => st2.ro.there b hb) nd0
        have tr : ∀ b ∈ F2, H1 b ≠ none := fun b hb => (st2.ro.there b hb).1
        have ng : ∀ b ∈ F2, b ∉ G1 := fun b hb hg => (List.nodup_append.mp st2.nd).2.2 b hb b hg rfl
        have ap := sp3.apart (T := F2) tr nd0 nd3
        refine ⟨⟨sp3.keep, sp3.le, fun b o e => (sp3.grow b o e).imp_right fun h => h.elim (fun z => by simp at z) .inr, fun b hb => ?_, sp3.ownG, sp3.live, sp3.cells⟩,
          ⟨st3.le, st2.ro.frame sp3.le sp3.cells k1 k2, st3.rc, ?_⟩, ?_⟩
        · rcases List.mem_append.mp hb with h | h
          · exact (sp3.ownF b h).imp_left fun z => by simp at z
          · exact .inl h
        · exact (ap.sublist ((List.Sublist.refl F2).append (List.sublist_append_right T' G')))
        · simp only [List.nodup_append, List.mem_append] at ap ⊢; grind
      cases res with
      | ok x μ' =>
        cases h1
        intro v H' Φ' A' T' G' sp3 st3 r3 nd3
        obtain ⟨b1, b2, b3⟩ := both sp3 st3 nd3
        exact q v H' Φ' A' T' F2 G' (s02.trans0 b1) b2 r3 b3 ((fz.trans fz2).trans frz_mu)
      | exc ex μ' =>
        cases h1
        intro c d H' Φ' A' G' sp3 st3 rx
        obtain ⟨b1, b2, b3⟩ := both (T' := []) sp3 st3 (List.nodup_append.mp st3.nd).2.1
        exact q c d H' Φ' A' F2 G' (s02.trans0 b1) b2 rx ((fz.trans fz2).trans frz_mu)
section
variable {X : Cx} {k : Nat} {f : Addr} {fd : FuncData} {ps : List Str} {W : WX} {x : Str} {p pos : Pos} {e : Expr} {es : List Expr} {t : TA} {fa : FA} {ds : List Value} {dvs : List V} {n : Nat} {g : FnS} {dfl : List SV}
theorem de_go (h : FG X.prog X.w X.K X.mg X.base k f fd ps (spF X.K n g)) (hl : ∀ as μ res, g as μ = some res → as.length = n) (room : Room k X.A) (gd : X.A.guards = some []) (hm : X.mg x = some (.ref f)) (hk : PySem.W.keepIn X.K (.ref f) = true) (bd : Binds X.K fd ps ds) (dd : Vals dvs ds) (hd : Dfl X.K dvs dfl) (tk : Takes X W)
    (ha : DA X W (e :: es) t fa) (hg : Gl X x := by rfl) (hdb : (x == ("__debug__" : Str)) = false := by decide) (he : starEach (e :: es) X.env = (false, eval e X.env) :: starEach es X.env := by rfl) (hpl : (backTo pos (starEach es X.env)).any (·.1) = false := by rfl) : DE X W (.Call (.Name x p) (e :: es) [] pos) (tGo W (spF X.K n g) dvs t) (fGo g dfl fa) :=
  ⟨pe_go h room gd hg hm hk bd dd tk ha.pe hdb he hpl, ev_go hd hl ha.ev⟩
end

/-! ### argument lists, displays -/
section
variable {X : Cx} {W : WX} {e : Expr} {es : List Expr} {pos : Pos} {te : TE} {t : TA} {fe : FE} {fs : FA}
def fNil : FA := fun S => some (.ok [] S)
def fCons (fe : FE) (fs : FA) : FA := bindE fe fun r => bindE fs fun rs => retE (r :: rs)
theorem ev_nil {K : PySem.W.Frag} : EVA K W tNil fNil := fun S σ H Φ A F G st out ho Q q => by
  cases ho
  exact q [] H Φ A [] F G .refl st .nil (by simpa using st.nd) .refl
theorem ev_cons {K : PySem.W.Frag} (ha : EV K W te fe) (hb : EVA K W t fs) : EVA K W (tCons te t) (fCons fe fs) := fun S σ H Φ A F G st out ho Q q => by
  refine run1 (t := te) ha st ho q.x fun r S1 v H1 Φ1 A1 T F1 G1 sp st1 rv nd fz h1 => ?_
  refine runA (t := t) hb st1 h1 (fun e S' eo => (q.x e S' eo).at sp fz) fun rs S2 vs H2 Φ2 A2 U F2 G2 sp2 st2 rvs nd2 fz2 h2 => ?_
  cases h2
  have rv' := RV.step st1 rv nd sp2.drop fz2
  have nd' : ((T ++ U) ++ (F2 ++ G2)).Nodup := by
    have := sp2.apart (fun b hb => (rv.there b hb).1) nd (by rw [List.append_assoc]; exact nd2)
    simpa [List.append_assoc] using this
  exact q (v :: vs) H2 Φ2 A2 (T ++ U) F2 G2 (by rw [List.append_assoc]; exact sp.trans sp2) st2 (.cons rv' rvs) nd' (fz.trans fz2)
theorem da_nil : DA X W [] tNil fNil := ⟨pa_nil, ev_nil⟩
theorem da_cons (ha : DE X W e te fe) (hb : DA X W es t fs) (hs : starEach (e :: es) X.env = (false, eval e X.env) :: starEach es X.env := by rfl) : DA X W (e :: es) (tCons te t) (fCons fe fs) := ⟨pa_cons ha.pe hb.pe hs, ev_cons ha.ev hb.ev⟩
theorem k1000 {n : Nat} (h : n ≤ 1000) : n ≤ sizeLine := Nat.le_trans h (by rw [sizeLine_eq]; decide)
/-- (a, b, ..): its items frozen -/
def fTup (fs : FA) : FE := bindE fs fun rs S => if rs.length ≤ 1000 then (escs rs S).map fun z => .ok (.d (.tup z.1)) z.2 else none
theorem ev_tup {K : PySem.W.Frag} (h : EVA K W t fs) : EV K W (tTup t) (fTup fs) := fun S σ H Φ A F G st out ho Q q => by
  refine runA (t := t) h st ho q.x fun rs S1 vs H1 Φ1 A1 T F1 G1 sp st1 rv nd fz h1 => ?_
  by_cases hl : rs.length ≤ 1000
  · rw [if_pos hl] at h1
    cases e1 : escs rs S1 with
    | none => rw [e1] at h1; cases h1
    | some z =>
      obtain ⟨ds, S2⟩ := z
      rw [e1] at h1; cases h1
      obtain ⟨Φ2, F2, sp2, st2, rp, fz2⟩ := escs_ok st1 rv nd e1
      refine ⟨by rw [rv.length]; exact k1000 hl, fun p hp => ?_⟩
      obtain ⟨n1, n2, n3⟩ := new_frz (o := .tup vs) st2 hp
      refine q (.ref p) _ _ _ [] F2 G1 ((sp.trans0 sp2).trans0 n1) n2 (RS.dat (.tup upd_same (rp.mono n3))) (by simpa using n2.nd) (fz.trans fz2)
  · rw [if_neg hl] at h1; cases h1
theorem de_tup {x1} (h : DA X W es t fs) : DE X W (.Tuple es x1 pos) (tTup t) (fTup fs) := ⟨pe_tup h.pe, ev_tup h.ev⟩
/-- [a, b, ..]: a new list of its own -/
def fLst (fs : FA) : FE := bindE fs fun rs S => if rs.length ≤ 1000 then (kids rs S).map fun z => .ok (.val (.own z.1)) z.2 else none
theorem ev_lst {K : PySem.W.Frag} (h : EVA K W t fs) : EV K W (tLst t) (fLst fs) := fun S σ H Φ A F G st out ho Q q => by
  refine runA (t := t) h st ho q.x fun rs S1 vs H1 Φ1 A1 T F1 G1 sp st1 rv nd fz h1 => ?_
  by_cases hl : rs.length ≤ 1000
  · rw [if_pos hl] at h1
    cases e1 : kids rs S1 with
    | none => rw [e1] at h1; cases h1
    | some z =>
      obtain ⟨xs, S2⟩ := z
      rw [e1] at h1; cases h1
      obtain ⟨Φ2, F2, sp2, st2, rq, fz2⟩ := kids_ok st1 rv nd e1
      have nd2 : (T ++ (F2 ++ G1)).Nodup := sp2.apart (fun b hb => (rv.there b hb).1) nd st2.nd
      refine ⟨by rw [rv.length]; exact k1000 hl, fun p hp => ?_⟩
      obtain ⟨n1, n2, n3, n4⟩ := new_list st2 rq nd2 hp
      have s2 : Step F G H Φ A (T ++ F2) G1 H1 Φ2 A1 := Step.trans (T1 := []) sp sp2
      exact q (.ref p) _ _ _ (p :: T) F2 G1 (s2.trans0 n1) n2 n3 n4 (fz.trans fz2)
  · rw [if_neg hl] at h1; cases h1
theorem de_lst (h : DA X W es t fs) : DE X W (.List es pos) (tLst t) (fLst fs) := ⟨pe_lst h.pe, ev_lst h.ev⟩
end
end L3

namespace L3
open PySem PySem.Spec PyProof.Rows L2

/-! ### statements -/
inductive SO where
  | nx (S : Sto) | rt (x : SV) (μ : List SV) | bk (S : Sto) | ct (S : Sto) | exc (e : Ex) (S : Sto)
abbrev FS := Sto → Option SO
section
variable (K : PySem.W.Frag) (W : WX)
def XS (F G : List Addr) (H Φ : Hp) (A : List Addr) (e : Ex) (S' : Sto) : Prop := ∀ c d σ' H' Φ' A' F' G', Run F G H Φ A F' G' H' Φ' A' → Stands K S' σ' H' Φ' A' F' G' → RX K Φ' H' e c d → W c d σ' H'
def NxS (F G : List Addr) (H Φ : Hp) (A : List Addr) (S' : Sto) (P : Sl → Hp → Prop) : Prop := ∀ σ' H' Φ' A' F' G', Run F G H Φ A F' G' H' Φ' A' → Stands K S' σ' H' Φ' A' F' G' → P σ' H'
def RtS (F G : List Addr) (H Φ : Hp) (A : List Addr) (x : SV) (μ : List SV) (Q : VK) : Prop := ∀ v H' Φ' A' T G', Run F G H Φ A T G' H' Φ' A' → Stands K ⟨[], μ⟩ [] H' Φ' A' [] G' → RS K Φ' H' A' v x T → (T ++ G').Nodup → Q v H'
def PostS (F G : List Addr) (H Φ : Hp) (A : List Addr) (D : Ends) : SO → Prop
  | .nx S' => NxS K F G H Φ A S' D.nx
  | .bk S' => NxS K F G H Φ A S' D.bk
  | .ct S' => NxS K F G H Φ A S' D.ct
  | .rt x μ => RtS K F G H Φ A x μ D.rt
  | .exc e S' => XS K W F G H Φ A e S'
def SEV (t : TS) (f : FS) : Prop := ∀ S σ H Φ A F G, Stands K S σ H Φ A F G → ∀ out, f S = some out → ∀ D, PostS K W F G H Φ A D out → t D σ H
end
structure DS (X : Cx) (W : WX) (s : Stmt) (t : TS) (f : FS) : Prop where
  ps : PS X s t
  ev : SEV X.K W t f
structure DB (X : Cx) (W : WX) (s : List Stmt) (t : TS) (f : FS) : Prop where
  ps : PSs X s t
  ev : SEV X.K W t f

section
variable {K : PySem.W.Frag} {W : WX} {S S' S1 : Sto} {σ : Sl} {H Φ H1 Φ1 : Hp} {A A1 F G F1 G1 T : List Addr} {v : V} {r : R}
theorem NxS.at {P : Sl → Hp → Prop} (q : NxS K F G H Φ A S' P) (rn : Run F G H Φ A F1 G1 H1 Φ1 A1) : NxS K F1 G1 H1 Φ1 A1 S' P := fun σ' H' Φ' A' F' G' r2 st => q σ' H' Φ' A' F' G' (rn.trans r2) st
theorem PostS.at {D : Ends} {out : SO} (q : PostS K W F G H Φ A D out) (rn : Run F G H Φ A F1 G1 H1 Φ1 A1) : PostS K W F1 G1 H1 Φ1 A1 D out := by
  cases out with
  | nx S' => exact NxS.at q rn
  | bk S' => exact NxS.at q rn
  | ct S' => exact NxS.at q rn
  | rt x μ => exact fun v H' Φ' A' T G' r2 st rs nd => q v H' Φ' A' T G' (rn.trans r2) st rs nd
  | exc e S' => exact fun c d σ' H' Φ' A' F' G' r2 st rx => q c d σ' H' Φ' A' F' G' (rn.trans r2) st rx
theorem XS.xp {e : Ex} (q : XS K W F G H Φ A e S') : XP K W S σ H Φ A F G e S' := fun c d H' Φ' A' F' G' sp st rx _ => q c d σ H' Φ' A' F' G' sp.run st rx
/-- from an expression to the statement's end -/
def bindS {α : Type} (f : Sto → Option (Out α)) (g : α → FS) : FS := fun S => match f S with
  | some (.ok a S1) => g a S1
  | some (.exc e S1) => some (.exc e S1)
  | none => none
theorem runS {t : TE} {f : FE} {k : R → FS} {out : SO} {D : Ends} {P : VK} (hf : EV K W t f) (st : Stands K S σ H Φ A F G) (h : bindS f k S = some out) (q : PostS K W F G H Φ A D out)
    (hk : ∀ r S1 v H1 Φ1 A1 T F1 G1, Step F G H Φ A (T ++ F1) G1 H1 Φ1 A1 → Stands K S1 σ H1 Φ1 A1 F1 G1 → RV K Φ1 H1 A1 S1 σ v r T → (T ++ (F1 ++ G1)).Nodup → k r S1 = some out → P v H1) : t σ H P := by
  unfold bindS at h
  cases e : f S with
  | none => rw [e] at h; cases h
  | some o =>
    rw [e] at h
    cases o with
    | ok r S1 => exact hf S σ H Φ A F G st _ e P fun v H' Φ' A' T F' G' sp st' rv nd fz => hk r S1 v H' Φ' A' T F' G' sp st' rv nd h
    | exc x S1 => cases h; exact hf S σ H Φ A F G st _ e P (XS.xp q)
theorem runST {t : TT} {f : FT} {k : Bool → FS} {out : SO} {D : Ends} {P : Bool → Hp → Prop} (hf : EVT K W t f) (st : Stands K S σ H Φ A F G) (h : bindS f k S = some out) (q : PostS K W F G H Φ A D out)
    (hk : ∀ b S1 H1 Φ1 A1 F1 G1, Step F G H Φ A F1 G1 H1 Φ1 A1 → Stands K S1 σ H1 Φ1 A1 F1 G1 → k b S1 = some out → P b H1) : t σ H P := by
  unfold bindS at h
  cases e : f S with
  | none => rw [e] at h; cases h
  | some o =>
    rw [e] at h
    cases o with
    | ok b S1 => exact hf S σ H Φ A F G st _ e P fun H' Φ' A' F' G' sp st' fz => hk b S1 H' Φ' A' F' G' sp st' h
    | exc x S1 => cases h; exact hf S σ H Φ A F G st _ e P (XS.xp (σ := σ) q)
theorem runSA {t : TA} {f : FA} {k : List R → FS} {out : SO} {D : Ends} {P : List V → Hp → Prop} (hf : EVA K W t f) (st : Stands K S σ H Φ A F G) (h : bindS f k S = some out) (q : PostS K W F G H Φ A D out)
    (hk : ∀ rs S1 vs H1 Φ1 A1 T F1 G1, Step F G H Φ A (T ++ F1) G1 H1 Φ1 A1 → Stands K S1 σ H1 Φ1 A1 F1 G1 → RVs K Φ1 H1 A1 S1 σ vs rs T → (T ++ (F1 ++ G1)).Nodup → k rs S1 = some out → P vs H1) : t σ H P := by
  unfold bindS at h
  cases e : f S with
  | none => rw [e] at h; cases h
  | some o =>
    rw [e] at h
    cases o with
    | ok r S1 => exact hf S σ H Φ A F G st _ e P fun v H' Φ' A' T F' G' sp st' rv nd fz => hk r S1 v H' Φ' A' T F' G' sp st' rv nd h
    | exc x S1 => cases h; exact hf S σ H Φ A F G st _ e P (XS.xp q)

/-- a slot filled -/
theorem Stands.set {i : Nat} {x : SV} (st : Stands K S σ H Φ A F G) (h : RS K Φ H A v x T) (nd : (T ++ (F ++ G)).Nodup) (hi : i < S.ρ.length) :
    ∃ F', Stands K { S with ρ := S.ρ.set i (some x) } (σ.set i (some v)) H Φ A F' G ∧ ∀ b ∈ F', b ∈ T ∨ b ∈ F := by
  obtain ⟨F1, F2, ⟨Fi, e1⟩, ro⟩ := st.ro.put hi h
  refine ⟨F1 ++ (T ++ F2), ⟨st.le, ro, st.rc, ?_⟩, fun b hb => ?_⟩
  · subst e1
    simp only [List.nodup_append, List.mem_append] at nd ⊢; grind
  · subst e1
    simp only [List.mem_append] at hb ⊢; grind
theorem Run.of_sub {F' : List Addr} (h : ∀ b ∈ F', b ∈ F) : Run F G H Φ A F' G H Φ A := Run.sub .refl fun b hb => hb.imp_left (h b)

/-- what a return hands back: whatever it is, out of its slot -/
theorem ret_ok {x : SV} (st : Stands K S σ H Φ A F G) (h : RV K Φ H A S σ v r T) (nd : (T ++ (F ++ G)).Nodup) (e : r.sv S = some x) :
    ∃ U, RS K Φ H A v x U ∧ (U ++ G).Nodup ∧ ∀ b ∈ U, b ∈ T ∨ b ∈ F := by
  cases r with
  | val y =>
    cases e
    exact ⟨T, h, nd.sublist ((List.Sublist.refl T).append (List.sublist_append_right F G)), fun b hb => .inl hb⟩
  | bor i p =>
    obtain ⟨rfl, v0, e0, hp, hat⟩ := h
    have e : S.sub i p = some x := e
    obtain ⟨x0, e1, e2⟩ := sub_some e
    obtain ⟨v', F1, Fi, F2, e3, e4, q, _⟩ := st.ro.at e1
    rw [e0] at e3; cases e3
    obtain ⟨u, E1, Ex, E2, a1, a2, a3, _⟩ := RS.sub q e2
    have : u = v := a1.inj (hat x e)
    subst this
    subst e4 a2
    refine ⟨Ex, a3, ?_, fun b hb => .inr (by simp only [List.mem_append]; grind)⟩
    have := st.nd
    simp only [List.nodup_append, List.mem_append] at this ⊢; grind
end

section
variable {X : Cx} {W : WX} {e tg : Expr} {s : Stmt} {ss : List Stmt} {pos : Pos} {te : TE} {t u : TS} {ta : TA} {fe : FE} {f g : FS} {fa : FA}
/-! ### blocks -/
def fNext : FS := fun S => some (.nx S)
def fSeq (f g : FS) : FS := fun S => match f S with
  | some (.nx S1) => g S1
  | o => o
theorem db_nil : DB X W [] tNext fNext := ⟨pss_nil, fun S σ H Φ A F G st out ho D q => by cases ho; exact q σ H Φ A F G .refl st⟩
theorem ev_seq {K : PySem.W.Frag} (hf : SEV K W t f) (hg : SEV K W u g) : SEV K W (tSeq t u) (fSeq f g) := fun S σ H Φ A F G st out ho D q => by
  unfold fSeq at ho
  cases e : f S with
  | none => rw [e] at ho; cases ho
  | some o =>
    rw [e] at ho
    refine hf S σ H Φ A F G st o e { D with nx := u D } ?_
    cases o with
    | nx S1 => exact fun σ' H' Φ' A' F' G' rn st' => hg S1 σ' H' Φ' A' F' G' st' out ho D (q.at rn)
    | bk S1 => cases ho; exact q
    | ct S1 => cases ho; exact q
    | rt x μ => cases ho; exact q
    | exc x S1 => cases ho; exact q
theorem db_cons (hf : DS X W s t f) (hg : DB X W ss u g) : DB X W (s :: ss) (tSeq t u) (fSeq f g) := ⟨pss_cons hf.ps hg.ps, ev_seq hf.ev hg.ev⟩
theorem db_one (hf : DS X W s t f) : DB X W [s] t f := ⟨pss_one hf.ps, hf.ev⟩
theorem ds_pass : DS X W (.Pass pos) tNext fNext := ⟨ps_pass, db_nil.ev⟩
def fBrk : FS := fun S => some (.bk S)
def fCont : FS := fun S => some (.ct S)
theorem ds_break : DS X W (.Break pos) tBreak fBrk := ⟨ps_break, fun S σ H Φ A F G st out ho D q => by cases ho; exact q σ H Φ A F G .refl st⟩
theorem ds_continue : DS X W (.Continue pos) tCont fCont := ⟨ps_continue, fun S σ H Φ A F G st out ho D q => by cases ho; exact q σ H Φ A F G .refl st⟩
/-! ### expressions, returns -/
def fExpr (fe : FE) : FS := bindS fe fun _ S => some (.nx S)
theorem ev_expr {K : PySem.W.Frag} (h : EV K W te fe) : SEV K W (tDrop te) (fExpr fe) := fun S σ H Φ A F G st out ho D q => by
  refine runS (t := te) h st ho q fun r S1 v H1 Φ1 A1 T F1 G1 sp st1 rv nd h1 => ?_
  cases h1
  exact q σ H1 Φ1 A1 F1 G1 sp.drop.run st1
theorem ds_expr (h : DE X W e te fe) (hs : swapsWith e none pos.line X.env = pure false := by rfl) : DS X W (.Expr e pos) (tDrop te) (fExpr fe) := ⟨ps_expr h.pe hs, ev_expr h.ev⟩
def fRet (fe : FE) : FS := bindS fe fun r S => (r.sv S).map fun x => .rt x S.μ
theorem ds_ret (h : DE X W e te fe) : DS X W (.Return (some e) pos) (tRet te) (fRet fe) := ⟨ps_ret h.pe, fun S σ H Φ A F G st out ho D q => by
  refine runS (t := te) h.ev st ho q fun r S1 v H1 Φ1 A1 T F1 G1 sp st1 rv nd h1 => ?_
  cases e1 : r.sv S1 with
  | none => rw [e1] at h1; cases h1
  | some x =>
    rw [e1] at h1; cases h1
    obtain ⟨U, rs, nd2, hU⟩ := ret_ok st1 rv nd e1
    exact q v H1 Φ1 A1 U G1 (sp.run.sub fun b hb => hb.imp_left fun h => by simpa using hU b h) ⟨st1.le, .nil, st1.rc, (List.nodup_append.mp st1.nd).2.1⟩ rs nd2⟩
def fRetN : FS := fun S => some (.rt (.dat .non) S.μ)
theorem ds_retN : DS X W (.Return none pos) tRetN fRetN := ⟨ps_retN, fun S σ H Φ A F G st out ho D q => by
  cases ho
  exact q .non H Φ A [] G (Run.sub .refl fun b hb => hb.elim (fun h => by simp at h) .inr) ⟨st.le, .nil, st.rc, (List.nodup_append.mp st.nd).2.1⟩ (.dat .non) (by simpa using (List.nodup_append.mp st.nd).2.1)⟩
/-! ### if -/
def fIf (c : FT) (f g : FS) : FS := bindS c fun b => if b = true then f else g
theorem ds_if {c : Expr} {a b : List Stmt} {tc : TT} {fc : FT} (hc : DT X W c tc fc) (ha : DB X W a t f) (hb : DB X W b u g) : DS X W (.If c a b pos) (tIfS tc t u) (fIf fc f g) := ⟨ps_if hc.pe ha.ps hb.ps, fun S σ H Φ A F G st out ho D q => by
  refine runST (t := tc) hc.ev st ho q fun b S1 H1 Φ1 A1 F1 G1 sp st1 h1 => ?_
  cases b with
  | true => rw [if_pos rfl] at h1 ⊢; exact ha.ev S1 σ H1 Φ1 A1 F1 G1 st1 out h1 D (q.at sp.run)
  | false => rw [if_neg (by decide)] at h1 ⊢; exact hb.ev S1 σ H1 Φ1 A1 F1 G1 st1 out h1 D (q.at sp.run)⟩
/-! ### name = value -/
/-- slot i filled, where there is one -/
def Sto.put (S : Sto) (i : Nat) (x : SV) : Option Sto := if i < S.ρ.length then some { S with ρ := S.ρ.set i (some x) } else none
def fSet (i : Nat) (fe : FE) : FS := bindS fe fun r S => match r.kid S with
  | some (x, S1) => (S1.put i x).map SO.nx
  | none => none
theorem ev_set {K : PySem.W.Frag} {i : Nat} (h : EV K W te fe) : SEV K W (tAsg te (gName i)) (fSet i fe) := fun S σ H Φ A F G st out ho D q => by
  refine runS (t := te) h st ho q fun r S1 v H1 Φ1 A1 T F1 G1 sp st1 rv nd h1 => ?_
  cases e1 : r.kid S1 with
  | none => rw [e1] at h1; cases h1
  | some z =>
    obtain ⟨x, S2⟩ := z
    rw [e1] at h1
    obtain ⟨Φ2, F2, sp2, st2, rs2, fz2⟩ := kid_ok st1 rv nd e1
    have nd2 : (T ++ (F2 ++ G1)).Nodup := sp2.apart (fun b hb => (rv.there b hb).1) nd st2.nd
    have h1 : (S2.put i x).map SO.nx = some out := h1
    unfold Sto.put at h1
    by_cases hi : i < S2.ρ.length
    · rw [if_pos hi] at h1; cases h1
      obtain ⟨F3, st3, hF⟩ := st2.set rs2 nd2 hi
      have s12 : Step F G H Φ A (T ++ F2) G1 H1 Φ2 A1 := Step.trans (T1 := []) sp sp2
      exact q (σ.set i (some v)) H1 Φ2 A1 F3 G1 (s12.run.sub fun b hb => hb.imp_left fun h => by simpa using hF b h) st3
    · rw [if_neg hi] at h1; cases h1
theorem ds_set {x : Str} {pos' : Pos} {i : Nat} (hN : X.N.Nodup) (h : DE X W e te fe) (hi : X.N[i]? = some x := by rfl) (hx : Loc X.env.scope x := by first | exact Or.inl rfl | exact Or.inr rfl) (hs : swapsWith e (some (.Name x pos')) pos.line X.env = pure false := by rfl)
    (hf : X.fn x = true ∨ X.env.scope.names.lookup x = some .local := by first | exact .inl rfl | exact .inr rfl) : DS X W (.Assign [.Name x pos'] e pos) (tAsg te (gName i)) (fSet i fe) := ⟨ps_set hN hi hx h.pe hs hf, ev_set h.ev⟩
/-! ### targets -/
inductive Tg where
  | nm (i : Nat) | tp (ts : List Tg)
mutual
/-- a datum stored into a target: the slots then -/
def tgS : Tg → D → List (Option SV) → Option (List (Option SV))
  | .nm i, d, ρ => if i < ρ.length then some (ρ.set i (some (.dat d))) else none
  | .tp ts, .tup ds, ρ => tgsS ts ds ρ
  | .tp ts, .lst ds, ρ => tgsS ts ds ρ
  | .tp _, _, _ => none
def tgsS : List Tg → List D → List (Option SV) → Option (List (Option SV))
  | [], [], ρ => some ρ
  | t :: ts, d :: ds, ρ => match tgS t d ρ with
    | some ρ1 => tgsS ts ds ρ1
    | none => none
  | _, _, _ => none
end
mutual
def Tg.sl : Tg → List Nat
  | .nm i => [i]
  | .tp ts => Tg.sls ts
def Tg.sls : List Tg → List Nat
  | [] => []
  | t :: ts => t.sl ++ Tg.sls ts
end
/-- but for some slots all is as it was -/
def But (is : List Nat) (σ σ' : Sl) : Prop := σ'.length = σ.length ∧ ∀ j : Nat, j ∉ is → σ'[j]? = σ[j]?
def GEV (K : PySem.W.Frag) (g : TG) (t : Tg) : Prop := ∀ S σ H Φ A F G v d ρ', Stands K S σ H Φ A F G → Rp K Φ v d → tgS t d S.ρ = some ρ' → ∀ Q : Sl → Hp → Prop,
  (∀ σ' F', Stands K { S with ρ := ρ' } σ' H Φ A F' G → (∀ b ∈ F', b ∈ F) → But t.sl σ σ' → Q σ' H) → g v σ H Q
def GEVs (K : PySem.W.Frag) (g : TGs) (ts : List Tg) : Prop := ∀ S σ H Φ A F G vs ds ρ', Stands K S σ H Φ A F G → Rps K Φ vs ds → tgsS ts ds S.ρ = some ρ' → ∀ Q : Sl → Hp → Prop,
  (∀ σ' F', Stands K { S with ρ := ρ' } σ' H Φ A F' G → (∀ b ∈ F', b ∈ F) → But (Tg.sls ts) σ σ' → Q σ' H) → g vs σ H Q
structure DG (X : Cx) (e : Expr) (g : TG) (t : Tg) : Prop where
  pg : PG X e g
  ev : GEV X.K g t
structure DGs (X : Cx) (es : List Expr) (g : TGs) (ts : List Tg) : Prop where
  pg : PGs X es g
  ev : GEVs X.K g ts
theorem dg_name {x : Str} {i : Nat} (hN : X.N.Nodup) (hi : X.N[i]? = some x := by rfl) (hx : Loc X.env.scope x := by first | exact Or.inl rfl | exact Or.inr rfl) (hf : X.fn x = true ∨ X.env.scope.names.lookup x = some .local := by first | exact .inl rfl | exact .inr rfl) : DG X (.Name x pos) (gName i) (.nm i) :=
  ⟨pg_name hN hi hx hf, fun S σ H Φ A F G v d ρ' st rp e Q q => by
    have e : (if i < S.ρ.length then some (S.ρ.set i (some (.dat d))) else none) = some ρ' := by rw [← e]; rfl
    by_cases hl : i < S.ρ.length
    · rw [if_pos hl] at e; cases e
      obtain ⟨F', st', hF⟩ := st.set (T := []) (.dat rp) (by simpa using st.nd) hl
      exact q _ F' st' (fun b hb => by simpa using hF b hb) ⟨List.length_set, fun j hj => List.getElem?_set_ne (fun e => hj (by rw [Tg.sl, e]; simp))⟩
    · rw [if_neg hl] at e; cases e⟩
theorem dgs_nil : DGs X [] gNil [] := ⟨pgs_nil, fun S σ H Φ A F G vs ds ρ' st rp e Q q => by
  cases rp with
  | nil =>
    have e : some S.ρ = some ρ' := by rw [← e]; rfl
    cases e
    exact ⟨rfl, q σ F st (fun _ h => h) ⟨rfl, fun _ _ => rfl⟩⟩
  | cons => exact absurd e (by unfold tgsS; simp)⟩
theorem dgs_cons {es : List Expr} {g : TG} {gs : TGs} {t : Tg} {ts : List Tg} (h : DG X e g t) (h2 : DGs X es gs ts) (hs : (assignEach (e :: es) X.env).map (·.2) = assign e X.env :: (assignEach es X.env).map (·.2) := by rfl) : DGs X (e :: es) (gCons g gs) (t :: ts) := ⟨pgs_cons h.pg h2.pg hs, fun S σ H Φ A F G vs ds ρ' st rp e Q q => by
  cases rp with
  | nil => exact absurd e (by unfold tgsS; simp)
  | cons r1 rr =>
    rename_i v vs d ds
    have e : (match tgS t d S.ρ with | some ρ1 => tgsS ts ds ρ1 | none => none) = some ρ' := by rw [← e]; rfl
    cases e1 : tgS t d S.ρ with
    | none => rw [e1] at e; cases e
    | some ρ1 =>
      rw [e1] at e
      exact ⟨v, vs, rfl, h.ev S σ H Φ A F G v d ρ1 st r1 e1 _ fun σ1 F1 st1 h1 b1 => h2.ev { S with ρ := ρ1 } σ1 H Φ A F1 G vs ds ρ' st1 rr e Q fun σ2 F2 st2 h3 b2 => q σ2 F2 st2 (fun b hb => h1 b (h3 b hb)) ⟨b2.1.trans b1.1, fun j hj => by
        rw [Tg.sls, List.mem_append, not_or] at hj
        rw [b2.2 j hj.2, b1.2 j hj.1]⟩⟩⟩
/-- (a, b, ..) = a tuple or a list of that length -/
def gTupS (K : PySem.W.Frag) (n : Nat) (t : TGs) : TG := fun v σ H Q => ∃ a xs, v = .ref a ∧ (SqT K H a xs ∨ SqL K H a xs) ∧ xs.length = n ∧ t xs σ H Q
theorem pg_tupS {es : List Expr} {k : Nat} {t : TGs} {n : Nat} (hc : X.calm = true) (h : PGs X es t)
    (hn : (assignEach es X.env).length = n := by rfl) (hst : (assignEach es X.env).findIdx? (·.1) = none := by rfl) : PG X (.Tuple es k pos) (gTupS X.K n t) :=
  ⟨fun pins s σ H v u Q I r hw => by
    obtain ⟨a, xs, e1, hq | hq, hl, hw⟩ := hw
    · exact (pg_tup (k := k) (pos := pos) hc h hn hst).run pins s σ H v u Q I r ⟨a, xs, e1, hq, hl, hw⟩
    · exact (pg_unl (k := k) (pos := pos) hc h hn hst).run pins s σ H v u Q I r ⟨a, xs, e1, hq, hl, hw⟩⟩
theorem tgs_len : ∀ {ts : List Tg} {ds : List D} {ρ ρ' : List (Option SV)}, tgsS ts ds ρ = some ρ' → ds.length = ts.length := by
  intro ts
  induction ts with
  | nil => intro ds ρ ρ' e; cases ds with
    | nil => rfl
    | cons => exact absurd e (by unfold tgsS; simp)
  | cons t ts ih =>
    intro ds ρ ρ' e
    cases ds with
    | nil => exact absurd e (by unfold tgsS; simp)
    | cons d ds =>
      have e : (match tgS t d ρ with | some ρ1 => tgsS ts ds ρ1 | none => none) = some ρ' := by rw [← e]; rfl
      cases e1 : tgS t d ρ with
      | none => rw [e1] at e; cases e
      | some ρ1 => rw [e1] at e; exact congrArg (· + 1) (ih e)
theorem dg_tup {es : List Expr} {k : Nat} {gs : TGs} {ts : List Tg} (hc : X.calm = true) (h : DGs X es gs ts) (hn : (assignEach es X.env).length = ts.length := by rfl) (hst : (assignEach es X.env).findIdx? (·.1) = none := by rfl) : DG X (.Tuple es k pos) (gTupS X.K ts.length gs) (.tp ts) :=
  ⟨pg_tupS hc h.pg hn hst, fun S σ H Φ A F G v d ρ' st rp e Q q => by
    cases rp with
    | tup sq rr =>
      rename_i a vs ds
      have e : tgsS ts ds S.ρ = some ρ' := by rw [← e]; rfl
      exact ⟨a, vs, rfl, .inl (.inl (.inl (st.le _ _ sq))), by rw [rr.length]; exact tgs_len e, h.ev S σ H Φ A F G vs ds ρ' st rr e Q (fun σ' F' a b c => q σ' F' a b (by rw [Tg.sl]; exact c))⟩
    | lst sq rr =>
      rename_i a vs ds
      have e : tgsS ts ds S.ρ = some ρ' := by rw [← e]; rfl
      exact ⟨a, vs, rfl, .inr (.inl (.inl (st.le _ _ sq))), by rw [rr.length]; exact tgs_len e, h.ev S σ H Φ A F G vs ds ρ' st rr e Q (fun σ' F' a b c => q σ' F' a b (by rw [Tg.sl]; exact c))⟩
    | _ => exact absurd e (by unfold tgS; simp)⟩
/-- target = value, a datum -/
def fAsg (tg : Tg) (fe : FE) : FS := bindS fe fun r S => match r.esc S with
  | some (d, S1) => (tgS tg d S1.ρ).map fun ρ => .nx { S1 with ρ := ρ }
  | none => none
theorem ds_asg {g : TG} {tt : Tg} (h : DE X W e te fe) (hg : DG X tg g tt) (hs : swapsWithSole [tg] e pos.line X.env = pure false := by rfl) (hw : swappedStores [tg] e X.env = pure none := by rfl)
    (h1 : (assignEach [tg] X.env).map (·.2) = [assign tg X.env] := by rfl) : DS X W (.Assign [tg] e pos) (tAsg te g) (fAsg tt fe) := ⟨ps_asg h.pe hg.pg hs hw h1, fun S σ H Φ A F G st out ho D q => by
  refine runS (t := te) h.ev st ho q fun r S1 v H1 Φ1 A1 T F1 G1 sp st1 rv nd h1 => ?_
  cases e1 : r.esc S1 with
  | none => rw [e1] at h1; cases h1
  | some z =>
    obtain ⟨d, S2⟩ := z
    rw [e1] at h1
    obtain ⟨Φ2, F2, sp2, st2, rp2, fz2⟩ := esc_ok st1 rv nd e1
    have h1 : (tgS tt d S2.ρ).map (fun ρ => SO.nx { S2 with ρ := ρ }) = some out := h1
    cases e2 : tgS tt d S2.ρ with
    | none => rw [e2] at h1; cases h1
    | some ρ' =>
      rw [e2] at h1; cases h1
      refine hg.ev S2 σ H1 Φ2 A1 F2 G1 v d ρ' st2 rp2 e2 _ fun σ' F' st' hF _ => ?_
      exact q σ' H1 Φ2 A1 F' G1 ((sp.trans0 sp2).run.sub fun b hb => hb.imp_left (hF b)) st'⟩
/-! ### a, b = x, y (plain local names), each as it is -/
def putAll : List Nat → List SV → Sto → Option Sto
  | [], [], S => some S
  | i :: is, x :: xs, S => match S.put i x with
    | some S1 => putAll is xs S1
    | none => none
  | _, _, _ => none
def fPar (is : List Nat) (fa : FA) : FS := bindS fa fun rs S => match kids rs S with
  | some (xs, S1) => (putAll is xs S1).map SO.nx
  | none => none
def setAll : List Nat → List V → Sl → Sl
  | i :: is, v :: vs, σ => setAll is vs (σ.set i (some v))
  | _, _, σ => σ
theorem putAll_ok {K : PySem.W.Frag} {H Φ : Hp} {A G : List Addr} : ∀ {is : List Nat} {xs : List SV} {vs : List V} {S S' : Sto} {σ : Sl} {F T : List Addr}, Stands K S σ H Φ A F G → RSs K Φ H A vs xs T → (T ++ (F ++ G)).Nodup → putAll is xs S = some S' →
    ∃ F', Stands K S' (setAll is vs σ) H Φ A F' G ∧ ∀ b ∈ F', b ∈ T ∨ b ∈ F
  | [], _, _, S, S', σ, F, _, st, .nil, nd, e => by cases e; exact ⟨F, st, fun b hb => .inr hb⟩
  | i :: is, _, _, S, S', σ, F, _, st, .cons (v := v) (vs := vs) (x := x) (xs := xs) (F := F0) (G := G0) q r, nd, e => by
    have e : (match S.put i x with | some S1 => putAll is xs S1 | none => none) = some S' := by rw [← e]; rfl
    unfold Sto.put at e
    by_cases hi : i < S.ρ.length
    · rw [if_pos hi] at e
      obtain ⟨F1, st1, h1⟩ := st.set q (nd_left nd) hi
      have nd1 : (G0 ++ (F1 ++ G)).Nodup := by
        have n1 := st1.nd
        simp only [List.nodup_append, List.mem_append] at nd n1 ⊢; grind
      obtain ⟨F2, st2, h2⟩ := putAll_ok st1 r nd1 e
      refine ⟨F2, st2, fun b hb => ?_⟩
      rcases h2 b hb with h | h
      · exact .inl (List.mem_append_right _ h)
      · exact (h1 b h).imp_left (List.mem_append_left _)
    · rw [if_neg hi] at e; cases e
  | [], _, _, S, S', σ, F, _, st, .cons q r, nd, e => by cases e
  | i :: is, _, _, S, S', σ, F, _, st, .nil, nd, e => by cases e
theorem ev_par {K : PySem.W.Frag} {is : List Nat} {t : TS} (h : EVA K W ta fa) (ht : ∀ D σ H, (ta σ H fun vs H1 => vs.length = is.length ∧ D.nx (setAll is vs σ) H1) → t D σ H) : SEV K W t (fPar is fa) := fun S σ H Φ A F G st out ho D q => by
  apply ht
  refine runSA (t := ta) h st ho q fun rs S1 vs H1 Φ1 A1 T F1 G1 sp st1 rv nd h1 => ?_
  cases e1 : kids rs S1 with
  | none => rw [e1] at h1; cases h1
  | some z =>
    obtain ⟨xs, S2⟩ := z
    rw [e1] at h1
    obtain ⟨Φ2, F2, sp2, st2, rs2, fz2⟩ := kids_ok st1 rv nd e1
    have nd2 : (T ++ (F2 ++ G1)).Nodup := sp2.apart (fun b hb => (rv.there b hb).1) nd st2.nd
    have h1 : (putAll is xs S2).map SO.nx = some out := h1
    cases e2 : putAll is xs S2 with
    | none => rw [e2] at h1; cases h1
    | some S3 =>
      rw [e2] at h1; cases h1
      obtain ⟨F3, st3, h3⟩ := putAll_ok st2 rs2 nd2 e2
      have hl : ∀ {is : List Nat} {xs : List SV} {S S' : Sto}, putAll is xs S = some S' → xs.length = is.length := by
        intro is
        induction is with
        | nil => intro xs S S' e; cases xs with
          | nil => rfl
          | cons => cases e
        | cons i is ih =>
          intro xs S S' e
          cases xs with
          | nil => cases e
          | cons x xs =>
            have e : (match S.put i x with | some S1 => putAll is xs S1 | none => none) = some S' := by rw [← e]; rfl
            cases e1 : S.put i x with
            | none => rw [e1] at e; cases e
            | some ρ1 => rw [e1] at e; exact congrArg (· + 1) (ih e)
      have s12 : Step F G H Φ A (T ++ F2) G1 H1 Φ2 A1 := Step.trans (T1 := []) sp sp2
      exact ⟨by rw [rs2.length]; exact hl e2, q _ H1 Φ2 A1 F3 G1 (s12.run.sub fun b hb => hb.imp_left fun h => by simpa using h3 b h) st3⟩
theorem ds_par2 {i j : Nat} {x y : Str} {a b : Expr} {px py pt : Pos} {kt k2 pt2} (hc : X.calm = true) (hN : X.N.Nodup) (ha : DA X W [a, b] ta fa) (hi : X.N[i]? = some x := by rfl) (hj : X.N[j]? = some y := by rfl) (hij : i ≠ j := by decide)
    (hx : X.env.scope.names.lookup x = some .local := by rfl) (hy : X.env.scope.names.lookup y = some .local := by rfl)
    (hw : swappedStores [.Tuple [.Name x px, .Name y py] kt pt] (.Tuple [a, b] k2 pt2) X.env = pure (some [x, y]) := by rfl)
    (hs : swapsWithSole [.Tuple [.Name x px, .Name y py] kt pt] (.Tuple [a, b] k2 pt2) pos.line X.env = pure false := by rfl) :
    DS X W (.Assign [.Tuple [.Name x px, .Name y py] kt pt] (.Tuple [a, b] k2 pt2) pos) (tPar i j ta) (fPar [i, j] fa) := ⟨ps_par hc hN hi hj hij hx hy ha.pe hw hs, ev_par ha.ev fun D σ H h => by
  have e : (fun vs H1 => List.length vs = [i, j].length ∧ D.nx (setAll [i, j] vs σ) H1) = fun vs H1 => ∃ v w, vs = [v, w] ∧ D.nx ((σ.set i (some v)).set j (some w)) H1 := by
    funext vs H1
    apply propext
    constructor
    · rintro ⟨hl, z⟩
      match vs, hl, z with
      | [v, w], _, z => exact ⟨v, w, rfl, z⟩
    · rintro ⟨v, w, rfl, z⟩
      exact ⟨rfl, z⟩
  rw [e] at h
  exact h⟩
theorem ds_par3 {i j l : Nat} {x y z : Str} {a b c : Expr} {px py pz pt : Pos} {kt k2 pt2} (hc : X.calm = true) (hN : X.N.Nodup) (ha : DA X W [a, b, c] ta fa) (hi : X.N[i]? = some x := by rfl) (hj : X.N[j]? = some y := by rfl) (hl : X.N[l]? = some z := by rfl) (hij : i ≠ j := by decide) (hil : i ≠ l := by decide) (hjl : j ≠ l := by decide)
    (hx : X.env.scope.names.lookup x = some .local := by rfl) (hy : X.env.scope.names.lookup y = some .local := by rfl) (hz : X.env.scope.names.lookup z = some .local := by rfl)
    (hw : swappedStores [.Tuple [.Name x px, .Name y py, .Name z pz] kt pt] (.Tuple [a, b, c] k2 pt2) X.env = pure (some [x, y, z]) := by rfl)
    (hs : swapsWithSole [.Tuple [.Name x px, .Name y py, .Name z pz] kt pt] (.Tuple [a, b, c] k2 pt2) pos.line X.env = pure false := by rfl) :
    DS X W (.Assign [.Tuple [.Name x px, .Name y py, .Name z pz] kt pt] (.Tuple [a, b, c] k2 pt2) pos) (tPar3 i j l ta) (fPar [i, j, l] fa) := ⟨ps_par3 hc hN hi hj hl hij hil hjl hx hy hz ha.pe hw hs, ev_par ha.ev fun D σ H h => by
  have e : (fun vs H1 => List.length vs = [i, j, l].length ∧ D.nx (setAll [i, j, l] vs σ) H1) = fun vs H1 => ∃ u v w, vs = [u, v, w] ∧ D.nx (((σ.set i (some u)).set j (some v)).set l (some w)) H1 := by
    funext vs H1
    apply propext
    constructor
    · rintro ⟨hl, z⟩
      match vs, hl, z with
      | [u, v, w], _, z => exact ⟨u, v, w, rfl, z⟩
    · rintro ⟨u, v, w, rfl, z⟩
      exact ⟨rfl, z⟩
  rw [e] at h
  exact h⟩
/-- a, b, .. = x, y, .. where a tuple is made (a name is captured): the names one by one, each as it is -/
inductive DNs (X : Cx) : List Expr → TGs → List Nat → Prop where
  | nil : DNs X [] gNil []
  | cons {x : Str} {i : Nat} {pos : Pos} {es : List Expr} {gs : TGs} {is : List Nat} (h : PG X (.Name x pos) (gName i)) (hs : (assignEach (.Name x pos :: es) X.env).map (·.2) = assign (.Name x pos) X.env :: (assignEach es X.env).map (·.2)) (t : DNs X es gs is) : DNs X (.Name x pos :: es) (gCons (gName i) gs) (i :: is)
theorem dn_cons {x : Str} {i : Nat} {es : List Expr} {gs : TGs} {is : List Nat} (hN : X.N.Nodup) (t : DNs X es gs is) (hi : X.N[i]? = some x := by rfl) (hx : Loc X.env.scope x := by first | exact Or.inl rfl | exact Or.inr rfl) (hf : X.fn x = true ∨ X.env.scope.names.lookup x = some .local := by first | exact .inl rfl | exact .inr rfl)
    (hs : (assignEach (.Name x pos :: es) X.env).map (·.2) = assign (.Name x pos) X.env :: (assignEach es X.env).map (·.2) := by rfl) : DNs X (.Name x pos :: es) (gCons (gName i) gs) (i :: is) := .cons (pg_name hN hi hx hf) hs t
theorem DNs.pgs {es : List Expr} {gs : TGs} {is : List Nat} (h : DNs X es gs is) : PGs X es gs := by
  induction h with
  | nil => exact pgs_nil
  | cons h hs t ih => exact pgs_cons h ih hs
theorem DNs.all {es : List Expr} {gs : TGs} {is : List Nat} (h : DNs X es gs is) : ∀ {vs : List V} {σ : Sl} {H : Hp} {Q : Sl → Hp → Prop}, vs.length = is.length → Q (setAll is vs σ) H → gs vs σ H Q := by
  induction h with
  | nil => intro vs σ H Q hl q; cases vs with
    | nil => exact ⟨rfl, q⟩
    | cons => simp at hl
  | cons h hs t ih => intro vs σ H Q hl q; cases vs with
    | nil => simp at hl
    | cons v vs => exact ⟨v, vs, rfl, ih (by simpa using hl) q⟩
theorem ds_parT {es ts : List Expr} {gs : TGs} {is : List Nat} {kt k2 : Nat} {pt pt2 : Pos} (hc : X.calm = true) (ha : DA X W es ta fa) (hg : DNs X ts gs is) (hn : (assignEach ts X.env).length = is.length := by rfl) (hst : (assignEach ts X.env).findIdx? (·.1) = none := by rfl)
    (hs : swapsWithSole [.Tuple ts kt pt] (.Tuple es k2 pt2) pos.line X.env = pure false := by rfl) (hw : swappedStores [.Tuple ts kt pt] (.Tuple es k2 pt2) X.env = pure none := by rfl)
    (h1 : (assignEach [.Tuple ts kt pt] X.env).map (·.2) = [assign (.Tuple ts kt pt) X.env] := by rfl) (hz : is.length ≤ 1000 := by decide) :
    DS X W (.Assign [.Tuple ts kt pt] (.Tuple es k2 pt2) pos) (tAsg (tTup ta) (gTup X.K is.length gs)) (fPar is fa) := ⟨ps_asg (pe_tup ha.pe) (pg_tup hc hg.pgs hn hst) hs hw h1, fun S σ H Φ A F G st out ho D q => by
  refine runSA (t := ta) ha.ev st ho q fun rs S1 vs H1 Φ1 A1 T F1 G1 sp st1 rv nd h1 => ?_
  cases e1 : kids rs S1 with
  | none => rw [e1] at h1; cases h1
  | some z =>
    obtain ⟨xs, S2⟩ := z
    rw [e1] at h1
    obtain ⟨Φ2, F2, sp2, st2, rs2, fz2⟩ := kids_ok st1 rv nd e1
    have nd2 : (T ++ (F2 ++ G1)).Nodup := sp2.apart (fun b hb => (rv.there b hb).1) nd st2.nd
    have h1 : (putAll is xs S2).map SO.nx = some out := h1
    cases e2 : putAll is xs S2 with
    | none => rw [e2] at h1; cases h1
    | some S3 =>
      rw [e2] at h1; cases h1
      have hl : ∀ {is : List Nat} {xs : List SV} {S S' : Sto}, putAll is xs S = some S' → xs.length = is.length := by
        intro is
        induction is with
        | nil => intro xs S S' e; cases xs with
          | nil => rfl
          | cons => cases e
        | cons i is ih =>
          intro xs S S' e
          cases xs with
          | nil => cases e
          | cons x xs =>
            have e : (match S.put i x with | some S1 => putAll is xs S1 | none => none) = some S' := by rw [← e]; rfl
            cases e1 : S.put i x with
            | none => rw [e1] at e; cases e
            | some ρ1 => rw [e1] at e; exact congrArg (· + 1) (ih e)
      have hlen : vs.length = is.length := by rw [rs2.length]; exact hl e2
      refine ⟨by rw [hlen]; exact k1000 hz, fun p hp => ⟨p, vs, rfl, SqT.of upd_same, hlen, hg.all hlen ?_⟩⟩
      -- the tuple is of no further use
      have hold : ∀ b, H1 b ≠ none → upd H1 p (.tup vs) b = H1 b := fun b hb => upd_ne fun z => hb (by rw [z]; exact hp)
      have st2' : Stands X.K S2 σ (upd H1 p (.tup vs)) Φ2 A1 F2 G1 := ⟨st2.le.trans (upd_same' hp), st2.ro.frame (Same.refl _) Pfx.refl (fun b hb => hold b (st2.ro.there b hb).1) (fun b hb => (st2.ro.there b hb).2), st2.rc.frame (Same.refl _) Pfx.refl (fun b hb => hold b (st2.rc.there b hb).1) (fun b hb => (st2.rc.there b hb).2), st2.nd⟩
      have rs2' : RSs X.K Φ2 (upd H1 p (.tup vs)) A1 vs xs T := rs2.frame (Same.refl _) Pfx.refl (fun b hb => hold b (rs2.there b hb).1) (fun b hb => (rs2.there b hb).2)
      obtain ⟨F3, st3, h3⟩ := putAll_ok st2' rs2' nd2 e2
      have s12 : Step F G H Φ A (T ++ F2) G1 H1 Φ2 A1 := Step.trans (T1 := []) sp sp2
      refine q _ _ Φ2 A1 F3 G1 ⟨fun b o e hf hg => upd_same' hp _ _ (s12.keep b o e hg), s12.le, s12.grow, fun b hb => ?_, fun b hb => ?_, s12.cells⟩ st3
      · rcases hb with hb | hb
        · exact s12.ownF b (by simpa using h3 b hb)
        · exact .inr (s12.ownG b hb)
      · rw [hold b (s12.live b hb)]; exact s12.live b hb⟩
/-! ### what a loop walks -/
/-- at each turn the datum, with the heap grown at most -/
def Walk (K : PySem.W.Frag) (Φ0 : Hp) (J : It) (ds : List D) : Prop := ∀ S σ H Φ A F G, Stands K S σ H Φ A F G → Same Φ0 Φ → ∀ i,
  (∀ d, ds[i]? = some d → J.go i H ∧ ∀ x H', J.yld i H x H' → ∃ Φ', Step F G H Φ A F G H' Φ' A ∧ Stands K S σ H' Φ' A F G ∧ Rp K Φ' x d) ∧ (i = ds.length → J.stop i H)
abbrev FI := Sto → Option (Out (List D))
def PostI (K : PySem.W.Frag) (W : WX) (S : Sto) (σ : Sl) (H Φ : Hp) (A F G : List Addr) (R : It → Hp → Prop) : Out (List D) → Prop
  | .ok ds S' => ∀ J H' Φ' A' F' G', Step F G H Φ A F' G' H' Φ' A' → Stands K S' σ H' Φ' A' F' G' → Frz S S' → Walk K Φ' J ds → R J H'
  | .exc e S' => XP K W S σ H Φ A F G e S'
def IEV (K : PySem.W.Frag) (W : WX) (w : TI) (f : FI) : Prop := ∀ S σ H Φ A F G, Stands K S σ H Φ A F G → ∀ out, f S = some out → ∀ R, PostI K W S σ H Φ A F G R out → w σ H R
structure DI (X : Cx) (W : WX) (tg e : Expr) (w : TI) (f : FI) : Prop where
  pi : PI X tg e w
  ev : IEV X.K W w f
/-- for target in ..: the body at each -/
def forF (tg : Tg) (f : FS) : List D → FS
  | [], S => some (.nx S)
  | d :: r, S => match tgS tg d S.ρ with
    | some ρ => match f { S with ρ := ρ } with
      | some (.nx S1) => forF tg f r S1
      | some (.ct S1) => forF tg f r S1
      | some (.bk S1) => some (.nx S1)
      | o => o
    | none => none
def fFor (tg : Tg) (fi : FI) (f : FS) : FS := bindS fi fun ds => forF tg f ds
theorem ds_for {iter : Expr} {body : List Stmt} {wi : TI} {g : TG} {tt : Tg} {fi : FI} (hc : X.calm = true) (hi : DI X W tg iter wi fi) (hg : DG X tg g tt) (hb : DB X W body t f) (hp : PassesOwn (model X.prog X.w) X.A X.env X.xe := by first | exact PassesOwn.never | exact passes_of rfl)
    (hs : ∀ x, foldedSetIterable iter X.env x = pure x := by intro _; rfl) : DS X W (.For tg iter body [] pos) (tFor wi g t) (fFor tt fi f) := ⟨ps_for hp hc hi.pi hg.pg hb.ps hs, fun S σ H Φ A F G st out ho D q => by
  have ho : bindS fi (fun ds => forF tt f ds) S = some out := ho
  unfold bindS at ho
  cases e : fi S with
  | none => rw [e] at ho; cases ho
  | some o =>
    rw [e] at ho
    cases o with
    | exc x S1 => cases ho; exact hi.ev S σ H Φ A F G st _ e _ (XS.xp (σ := σ) q)
    | ok ds S1 =>
      refine hi.ev S σ H Φ A F G st _ e _ fun J H1 Φ1 A1 F1 G1 sp st1 fz wk => ?_
      have ho : forF tt f ds S1 = some out := ho
      refine ⟨fun i m σ2 H2 => i + m = ds.length ∧ ∃ S2 Φ2 A2 F2 G2, Run F G H Φ A F2 G2 H2 Φ2 A2 ∧ Stands X.K S2 σ2 H2 Φ2 A2 F2 G2 ∧ Same Φ1 Φ2 ∧ forF tt f (ds.drop i) S2 = some out,
        ⟨ds.length, by omega, S1, Φ1, A1, F1, G1, sp.run, st1, Same.refl _, by simpa using ho⟩, ?_⟩
      rintro i m σ2 H2 ⟨em, S2, Φ2, A2, F2, G2, rn, st2, le2, h2⟩
      obtain ⟨w1, w2⟩ := wk S2 σ2 H2 Φ2 A2 F2 G2 st2 le2 i
      by_cases hi : i < ds.length
      · have ed : ds[i]? = some ds[i] := List.getElem?_eq_getElem hi
        obtain ⟨jgo, jy⟩ := w1 _ ed
        have ec : ds.drop i = ds[i] :: ds.drop (i + 1) := List.drop_eq_getElem_cons hi
        rw [ec] at h2
        refine .inr ⟨jgo, fun σ' H' => ∃ S3 Φ3 A3 F3 G3, Run F G H Φ A F3 G3 H' Φ3 A3 ∧ Stands X.K S3 σ' H' Φ3 A3 F3 G3 ∧ Same Φ1 Φ3 ∧ forF tt f (ds.drop (i + 1)) S3 = some out,
          fun σ' H' ⟨S3, Φ3, A3, F3, G3, r3, s3, l3, h3⟩ => ⟨m - 1, by omega, by omega, S3, Φ3, A3, F3, G3, r3, s3, l3, h3⟩, fun x H' hy => ?_⟩
        obtain ⟨Φ3, sp3, st3, rp3⟩ := jy x H' hy
        have h2 : (match tgS tt ds[i] S2.ρ with
          | some ρ => match f { S2 with ρ := ρ } with
            | some (.nx S1) => forF tt f (ds.drop (i + 1)) S1
            | some (.ct S1) => forF tt f (ds.drop (i + 1)) S1
            | some (.bk S1) => some (.nx S1)
            | o => o
          | none => none) = some out := h2
        cases e3 : tgS tt ds[i] S2.ρ with
        | none => rw [e3] at h2; cases h2
        | some ρ =>
          rw [e3] at h2
          refine hg.ev S2 σ2 H' Φ3 A2 F2 G2 x ds[i] ρ st3 rp3 e3 _ fun σ4 F4 st4 hF4 _ => ?_
          have rn4 : Run F G H Φ A F4 G2 H' Φ3 A2 := (rn.trans sp3.run).sub fun b hb => hb.imp_left (hF4 b)
          have le4 : Same Φ1 Φ3 := le2.trans sp3.le
          cases e4 : f { S2 with ρ := ρ } with
          | none => simp only [e4] at h2; cases h2
          | some o4 =>
            simp only [e4] at h2
            refine hb.ev _ σ4 H' Φ3 A2 F4 G2 st4 o4 e4 _ ?_
            cases o4 with
            | nx S5 => exact fun σ5 H5 Φ5 A5 F5 G5 r5 s5 => ⟨S5, Φ5, A5, F5, G5, rn4.trans r5, s5, le4.trans r5.le, h2⟩
            | ct S5 => exact fun σ5 H5 Φ5 A5 F5 G5 r5 s5 => ⟨S5, Φ5, A5, F5, G5, rn4.trans r5, s5, le4.trans r5.le, h2⟩
            | bk S5 => cases h2; exact fun σ5 H5 Φ5 A5 F5 G5 r5 s5 => q σ5 H5 Φ5 A5 F5 G5 (rn4.trans r5) s5
            | rt x μ => cases h2; exact fun v H5 Φ5 A5 T5 G5 r5 s5 rs5 nd5 => q v H5 Φ5 A5 T5 G5 (rn4.trans r5) s5 rs5 nd5
            | exc x S5 => cases h2; exact fun c d σ5 H5 Φ5 A5 F5 G5 r5 s5 rx => q c d σ5 H5 Φ5 A5 F5 G5 (rn4.trans r5) s5 rx
      · have ei : i = ds.length := by omega
        rw [List.drop_eq_nil_of_le (by omega)] at h2
        cases h2
        exact .inl ⟨w2 ei, q σ2 H2 Φ2 A2 F2 G2 rn st2⟩⟩
/-! ### while -/
def whileF : Nat → FT → FS → FS
  | 0, _, _, _ => none
  | n + 1, c, f, S => match c S with
    | some (.ok true S1) => match f S1 with
      | some (.nx S2) => whileF n c f S2
      | some (.ct S2) => whileF n c f S2
      | some (.bk S2) => some (.nx S2)
      | o => o
    | some (.ok false S1) => some (.nx S1)
    | some (.exc e S1) => some (.exc e S1)
    | none => none
theorem ds_while {n : Nat} {c : Expr} {body : List Stmt} {tc : TT} {fc : FT} (hc : DT X W c tc fc) (hb : DB X W body t f) (hp : PassesOwn (model X.prog X.w) X.A X.env X.xe := by first | exact PassesOwn.never | exact passes_of rfl) : DS X W (.While c body [] pos) (tWhile tc t) (whileF n fc f) := ⟨ps_while hp hc.pe hb.ps, fun S σ H Φ A F G st out ho D q => by
  refine ⟨fun m σ2 H2 => ∃ S2 Φ2 A2 F2 G2, Run F G H Φ A F2 G2 H2 Φ2 A2 ∧ Stands X.K S2 σ2 H2 Φ2 A2 F2 G2 ∧ whileF m fc f S2 = some out, ⟨n, S, Φ, A, F, G, .refl, st, ho⟩, ?_⟩
  rintro m σ2 H2 ⟨S2, Φ2, A2, F2, G2, rn, st2, h2⟩
  cases m with
  | zero => cases h2
  | succ m =>
    have h2 : (match fc S2 with
      | some (.ok true S1) => match f S1 with
        | some (.nx S2) => whileF m fc f S2
        | some (.ct S2) => whileF m fc f S2
        | some (.bk S2) => some (.nx S2)
        | o => o
      | some (.ok false S1) => some (.nx S1)
      | some (.exc e S1) => some (.exc e S1)
      | none => none) = some out := h2
    cases e : fc S2 with
    | none => rw [e] at h2; cases h2
    | some o =>
      rw [e] at h2
      cases o with
      | exc x S3 =>
        cases h2
        exact hc.ev S2 σ2 H2 Φ2 A2 F2 G2 st2 _ e _ fun c d H' Φ' A' F' G' sp st' rx _ => q c d σ2 H' Φ' A' F' G' (rn.trans sp.run) st' rx
      | ok b S3 =>
        refine hc.ev S2 σ2 H2 Φ2 A2 F2 G2 st2 _ e _ fun H3 Φ3 A3 F3 G3 sp3 st3 fz3 => ?_
        have rn3 := rn.trans sp3.run
        cases b with
        | false => rw [if_neg (by decide)]; cases h2; exact q σ2 H3 Φ3 A3 F3 G3 rn3 st3
        | true =>
          rw [if_pos rfl]
          refine ⟨fun σ' H' => ∃ S4 Φ4 A4 F4 G4, Run F G H Φ A F4 G4 H' Φ4 A4 ∧ Stands X.K S4 σ' H' Φ4 A4 F4 G4 ∧ whileF m fc f S4 = some out, fun σ' H' h => ⟨m, Nat.lt_succ_self m, h⟩, ?_⟩
          cases e4 : f S3 with
          | none => simp only [e4] at h2; cases h2
          | some o4 =>
            simp only [e4] at h2
            refine hb.ev S3 σ2 H3 Φ3 A3 F3 G3 st3 o4 e4 _ ?_
            cases o4 with
            | nx S5 => exact fun σ5 H5 Φ5 A5 F5 G5 r5 s5 => ⟨S5, Φ5, A5, F5, G5, rn3.trans r5, s5, h2⟩
            | ct S5 => exact fun σ5 H5 Φ5 A5 F5 G5 r5 s5 => ⟨S5, Φ5, A5, F5, G5, rn3.trans r5, s5, h2⟩
            | bk S5 => cases h2; exact fun σ5 H5 Φ5 A5 F5 G5 r5 s5 => q σ5 H5 Φ5 A5 F5 G5 (rn3.trans r5) s5
            | rt x μ => cases h2; exact fun v H5 Φ5 A5 T5 G5 r5 s5 rs5 nd5 => q v H5 Φ5 A5 T5 G5 (rn3.trans r5) s5 rs5 nd5
            | exc x S5 => cases h2; exact fun c d σ5 H5 Φ5 A5 F5 G5 r5 s5 rx => q c d σ5 H5 Φ5 A5 F5 G5 (rn3.trans r5) s5 rx⟩
end

/-! ### a def by its body -/
/-- a def of n parameters and m slots, its body f -/
def runF (n m : Nat) (f : FS) : FnS := fun as μ => if as.length = n then match f ⟨as.map some ++ List.replicate (m - n) none, μ⟩ with
    | some (.nx S) => some (.ok (.dat .non) S.μ)
    | some (.rt x μ) => some (.ok x μ)
    | some (.exc e S) => some (.exc e S.μ)
    | _ => none
  else none
theorem runF_len {n m : Nat} {f : FS} : ∀ as μ res, runF n m f as μ = some res → as.length = n := fun as μ res h => by
  unfold runF at h
  split at h
  · assumption
  · cases h
theorem ro_none {K : PySem.W.Frag} {Φ H : Hp} {A : List Addr} : ∀ k : Nat, RO K Φ H A (List.replicate k none) (List.replicate k none) []
  | 0 => .nil
  | k + 1 => .non (ro_none k)
theorem ro_of {K : PySem.W.Frag} {Φ H : Hp} {A : List Addr} {σ : Sl} {ρ : List (Option SV)} (r : RO K Φ H A σ ρ []) : ∀ {vs : List V} {xs : List SV} {F : List Addr}, RSs K Φ H A vs xs F → RO K Φ H A (vs.map some ++ σ) (xs.map some ++ ρ) F
  | _, _, _, .nil => r
  | _, _, _, .cons q s => .som q (ro_of r s)
section
variable {P : Program} {w : World} {K : PySem.W.Frag} {mg : Str → Option Value} {base : Heap}
theorem fg_body {x qual : Str} {st : Stmt} {f : Addr} {fd : FuncData} {dV : Value} {N ps : List Str} {k : Nat} {fb : FS} (n m : Nat) (T : FunV K x qual st f fd dV) (C : FnScope N ps (defScope st)) (hn : ps.length = n) (hm : N.length = m)
    (body : ∀ (cdv : Value) (A : Around) (outer : List Env) (s : Shared) (H : Hp) (E : XK), Room k (A.deeper (envOfC qual (defScope st) s.heap.objs.size f cdv)) → A.guards = some [] →
      ∃ t, DB (cxOf (L2.CX P w) P w K mg base N qual (defScope st) f cdv A outer s H E) (fun c d _ H => E c d H) (defBody st) t fb) : FG P w K mg base (k + 1) f fd ps (spF K n (runF n m fb)) := by
  refine fg_of T C (fun vs H Q E h => h.1.trans hn.symm) fun cdv A outer s H vs Q E room gd want => ?_
  obtain ⟨hl, Φ, Ad, G, μ, as, res, st0, ra, hf, post⟩ := want
  obtain ⟨t, d⟩ := body cdv A outer s H E room gd
  refine ⟨t, d.ps, ?_⟩
  have las : as.length = n := by rw [← ra.length]; exact hl
  unfold runF at hf
  rw [if_pos las] at hf
  have eσ : L2.start N vs = vs.map some ++ List.replicate (m - n) none := by unfold L2.start; rw [hm, hl]
  have st1 : Stands K ⟨as.map some ++ List.replicate (m - n) none, μ⟩ (L2.start N vs) H Φ Ad [] G := by
    rw [eσ]
    exact ⟨st0.le, ro_of (ro_none _) ra, st0.rc, st0.nd⟩
  have toStep : ∀ {T' G' : List Addr} {H' Φ' : Hp} {A' : List Addr}, Run [] G H Φ Ad T' G' H' Φ' A' → Step [] G H Φ Ad T' G' H' Φ' A' := fun r => ⟨fun b o e hn => r.keep b o e (by simp) hn, r.le, r.grow, fun b hb => r.own b (.inl hb), fun b hb => (r.own b (.inr hb)).elim (fun z => by simp at z) id, r.live, r.cells⟩
  cases e : fb ⟨as.map some ++ List.replicate (m - n) none, μ⟩ with
  | none => rw [e] at hf; cases hf
  | some out =>
    rw [e] at hf
    refine d.ev _ (L2.start N vs) H Φ Ad [] G st1 out e _ ?_
    cases out with
    | nx S' =>
      cases hf
      intro σ' H' Φ' A' F' G' rn st'
      exact post .non H' Φ' A' [] G' (toStep (rn.sub fun b hb => hb.elim (fun h => by simp at h) .inr)) ⟨st'.le, .nil, st'.rc, (List.nodup_append.mp st'.nd).2.1⟩ (.dat .non) (by simpa using (List.nodup_append.mp st'.nd).2.1)
    | rt x μ' =>
      cases hf
      exact fun v H' Φ' A' T' G' rn st' rs nd => post v H' Φ' A' T' G' (toStep rn) st' rs nd
    | exc ex S' =>
      cases hf
      exact fun c dd σ' H' Φ' A' F' G' rn st' rx => post c dd H' Φ' A' G' (toStep (rn.sub fun b hb => hb.elim (fun h => by simp at h) .inr)) ⟨st'.le, .nil, st'.rc, (List.nodup_append.mp st'.nd).2.1⟩ rx
    | bk S' => cases hf
    | ct S' => cases hf
end
end L3

namespace L3
open PySem PySem.Spec PyProof.Rows L2

/-! ### data as the library has them -/
mutual
def D.py : D → Option PyData
  | .non => some .none
  | .bl b => some (.bool b)
  | .int i => some (.int i)
  | .str x => some (.str x)
  | .lst xs => (pys xs).map PyData.list
  | .tup xs => (pys xs).map PyData.tuple
  | .kl xs => (pys xs).map PyData.list
  | .kt xs => (pys xs).map PyData.tuple
  | .dK _ _ => none
  | .dT _ _ => none
  | .fn _ => none
def pys : List D → Option (List PyData)
  | [] => some []
  | d :: ds => (d.py).bind fun p => (pys ds).map fun ps => p :: ps
end
mutual
theorem Rp.dp {K : PySem.W.Frag} {H : Hp} : ∀ {v : V} {d : D} {p : PyData}, Rp K H v d → d.py = some p → Dp K H v p
  | _, _, _, .non, e => by unfold D.py at e; cases e; exact .non
  | _, _, _, .bl b, e => by unfold D.py at e; cases e; exact .bl b
  | _, _, _, .int i, e => by unfold D.py at e; cases e; exact .int i
  | _, _, _, .str x, e => by unfold D.py at e; cases e; exact .str x
  | _, _, p, .lst (ds := ds) q r, e => by
    have e : (pys ds).map PyData.list = some p := by rw [← e]; unfold D.py; rfl
    cases e2 : pys ds with
    | none => rw [e2] at e; cases e
    | some ps => rw [e2] at e; cases e; exact .lst (.inl (.inl q)) (Rps.dp r e2)
  | _, _, p, .tup (ds := ds) q r, e => by
    have e : (pys ds).map PyData.tuple = some p := by rw [← e]; unfold D.py; rfl
    cases e2 : pys ds with
    | none => rw [e2] at e; cases e
    | some ps => rw [e2] at e; cases e; exact .tup (.inl (.inl q)) (Rps.dp r e2)
  | _, _, p, .kl (ds := ds) q r, e => by
    have e : (pys ds).map PyData.list = some p := by rw [← e]; unfold D.py; rfl
    cases e2 : pys ds with
    | none => rw [e2] at e; cases e
    | some ps => rw [e2] at e; cases e; exact .lst q (Rps.dp r e2)
  | _, _, p, .kt (ds := ds) q r, e => by
    have e : (pys ds).map PyData.tuple = some p := by rw [← e]; unfold D.py; rfl
    cases e2 : pys ds with
    | none => rw [e2] at e; cases e
    | some ps => rw [e2] at e; cases e; exact .tup q (Rps.dp r e2)
  | _, _, _, .dK _ _ _, e => by unfold D.py at e; cases e
  | _, _, _, .dT _ _ _, e => by unfold D.py at e; cases e
  | _, _, _, .fn _, e => by unfold D.py at e; cases e
theorem Rps.dp {K : PySem.W.Frag} {H : Hp} : ∀ {vs : List V} {ds : List D} {ps : List PyData}, Rps K H vs ds → pys ds = some ps → DpAll K H vs ps
  | _, _, _, .nil, e => by unfold pys at e; cases e; exact .nil
  | _, _, ps, .cons (d := d) (ds := ds) q r, e => by
    rw [pys] at e
    cases e1 : d.py with
    | none => rw [e1] at e; cases e
    | some p =>
      cases e2 : pys ds with
      | none => rw [e1, e2] at e; cases e
      | some qs => rw [e1, e2] at e; cases e; exact .cons (Rp.dp q e1) (Rps.dp r e2)
end

/-! ### == of data -/
def eqP (x y : D) : Option Bool := match x.py, y.py with
  | some p, some q => if SeqAt.shaped p = true ∧ SeqAt.shaped q = true then some (PyData.eqv p q) else none
  | _, _ => none
def eqD (x y : D) : Option Bool := match x, y with
  | .str a, .str b => some (decide (a = b))
  | .int a, .int b => some (decide (a = b))
  | x, y => eqP x y
def dEq : D → D → Option D := fun x y => (eqD x y).map D.bl
def dNe : D → D → Option D := fun x y => (eqD x y).map fun b => .bl (!b)
def rEqA (K : PySem.W.Frag) : R2 := fun x y H Q => rEq x y H Q ∨ rEqD K x y H Q
def rNeA (K : PySem.W.Frag) : R2 := fun x y H Q => rNe x y H Q ∨ rNeD K x y H Q
theorem op_eqA {X : Cx} (hu : X.A.units + 64 < cLine) : OpR X (compareOp .Eq) (rEqA X.K) := op_eq.or (op_eqD hu)
theorem op_neA {X : Cx} (hu : X.A.units + 64 < cLine) : OpR X (compareOp .NotEq) (rNeA X.K) := op_ne.or (op_neD hu)
theorem eqD_ok {K : PySem.W.Frag} {H : Hp} {x y : V} {dx dy : D} {b : Bool} (rx : Rp K H x dx) (ry : Rp K H y dy) (e : eqD dx dy = some b) :
    (scal x y = true ∧ b = decide (x = y)) ∨ ∃ p q, Dp K H x p ∧ Dp K H y q ∧ SeqAt.shaped p = true ∧ SeqAt.shaped q = true ∧ b = PyData.eqv p q := by
  have gen : eqP dx dy = some b → ∃ p q, Dp K H x p ∧ Dp K H y q ∧ SeqAt.shaped p = true ∧ SeqAt.shaped q = true ∧ b = PyData.eqv p q := fun e => by
    unfold eqP at e
    cases e1 : dx.py with
    | none => rw [e1] at e; cases e
    | some p =>
      cases e2 : dy.py with
      | none => rw [e1, e2] at e; cases e
      | some p' =>
        rw [e1, e2] at e
        dsimp only at e
        by_cases h : SeqAt.shaped p = true ∧ SeqAt.shaped p' = true
        · rw [if_pos h] at e; cases e
          exact ⟨p, p', rx.dp e1, ry.dp e2, h.1, h.2, rfl⟩
        · rw [if_neg h] at e; cases e
  unfold eqD at e
  split at e
  · cases e; cases rx; cases ry
    exact .inl ⟨rfl, by simp⟩
  · cases e; cases rx; cases ry
    exact .inl ⟨rfl, by simp⟩
  · exact .inr (gen e)
theorem og_eq {K : PySem.W.Frag} : OpG K (rEqA K) (g2 dEq) := opG_scal fun H x y dx dy z rx ry e Q q => by
  unfold dEq at e
  cases e1 : eqD dx dy with
  | none => rw [e1] at e; cases e
  | some b =>
    rw [e1] at e; cases e
    rcases eqD_ok rx ry e1 with ⟨h, rfl⟩ | ⟨p, p', h1, h2, h3, h4, rfl⟩
    · exact .inl ⟨h, q _ fun H' => .bl _⟩
    · exact .inr ⟨p, p', h1, h2, h3, h4, q _ fun H' => .bl _⟩
theorem og_ne {K : PySem.W.Frag} : OpG K (rNeA K) (g2 dNe) := opG_scal fun H x y dx dy z rx ry e Q q => by
  unfold dNe at e
  cases e1 : eqD dx dy with
  | none => rw [e1] at e; cases e
  | some b =>
    rw [e1] at e; cases e
    rcases eqD_ok rx ry e1 with ⟨h, rfl⟩ | ⟨p, p', h1, h2, h3, h4, rfl⟩
    · exact .inl ⟨h, q _ fun H' => .bl _⟩
    · exact .inr ⟨p, p', h1, h2, h3, h4, q _ fun H' => .bl _⟩
/-! ### is None -/
def SV.isN : SV → Bool
  | .dat .non => true
  | _ => false
def gIs (neg : Bool) : G2 := fun ra rb S => match ra.sv S, rb.sv S with
  | some a, some (.dat .non) => some (.b (if neg then !a.isN else a.isN), S)
  | _, _ => none
theorem isN_ok {K : PySem.W.Frag} {Φ H : Hp} {A : List Addr} {v : V} {x : SV} {T : List Addr} (h : RS K Φ H A v x T) : decide (v = .non) = x.isN := by
  cases h with
  | dat q => cases q <;> simp [SV.isN]
  | node => simp [SV.isN]
  | cell => simp [SV.isN]
theorem og_is {K : PySem.W.Frag} (neg : Bool) : OpG K (fun x y H Q => y = .non ∧ Q (.bl (if neg then !decide (x = .non) else decide (x = .non))) H) (gIs neg) := by
  intro S σ H Φ A F G x y ra rb T U st rx ry nd rz S' e Q q
  unfold gIs at e
  cases e1 : ra.sv S with
  | none => rw [e1] at e; cases e
  | some a =>
    cases e2 : rb.sv S with
    | none => rw [e1, e2] at e; cases e
    | some b =>
      rw [e1, e2] at e
      obtain ⟨Ua, qa, _⟩ := rx.rs st e1
      cases b with
      | dat db =>
        cases db <;> try cases e
        have hy : y = .non := by cases ry.dat st e2; rfl
        refine ⟨hy, ?_⟩
        rw [isN_ok qa]
        exact q _ H Φ A [] F G ⟨fun _ _ e _ => e, fun _ _ e => e, fun _ _ e => .inl e, fun b hb => .inl (by simp only [List.nil_append] at hb; simp [hb]), fun _ h => .inl h, fun _ h => h, Pfx.refl⟩ st (RS.dat (.bl _)) (by simpa using st.nd) .refl
      | node n xs => cases e
      | cell k => cases e
theorem og_isN {K : PySem.W.Frag} : OpG K (fun x y H Q => y = .non ∧ Q (.bl (decide (x = .non))) H) (gIs false) := og_is false
theorem og_notN {K : PySem.W.Frag} : OpG K (fun x y H Q => y = .non ∧ Q (.bl (!decide (x = .non))) H) (gIs true) := og_is true
/-! ### + -/
/-- the items of two, both frozen -/
theorem its2_ok {K : PySem.W.Frag} {S : Sto} {σ : Sl} {H Φ : Hp} {A F G T U : List Addr} {x y : V} {ra rb : R} (st : Stands K S σ H Φ A F G) (hx : RV K Φ H A S σ x ra T) (hy : RV K Φ H A S σ y rb U) (nd : (T ++ (U ++ (F ++ G))).Nodup)
    {t t' : Bool} {xs ys : List D} (e1 : ra.its S = some (t, xs)) (e2 : rb.its S = some (t', ys)) :
    ∃ Φ' a b vs ws, x = .ref a ∧ y = .ref b ∧ SeqV K H a t vs ∧ SeqV K H b t' ws ∧ Rps K Φ' vs xs ∧ Rps K Φ' ws ys ∧ Step (T ++ (U ++ F)) G H Φ A F G H Φ' A ∧ Stands K S σ H Φ' A F G := by
  have ndU : (U ++ (F ++ G)).Nodup := (List.nodup_append.mp nd).2.1
  have ndT : (T ++ (F ++ G)).Nodup := nd.sublist ((List.Sublist.refl T).append (List.sublist_append_right U _))
  obtain ⟨Φ1, b, ws, rfl, s1, r1, sp1, st1⟩ := its_ok st hy ndU e2
  have hx1 : RV K Φ1 H A S σ x ra T := RV.step' st hx (by simpa [List.append_assoc] using nd) sp1 .refl
  obtain ⟨Φ2, a, vs, rfl, s2, r2, sp2, st2⟩ := its_ok st1 hx1 ndT e1
  refine ⟨Φ2, a, b, vs, ws, rfl, rfl, s2, s1, r2, r1.mono sp2.le, ⟨fun _ _ e _ => e, sp1.le.trans sp2.le, fun c o e => ?_, fun c hc => .inl (by simp [hc]), fun _ h => .inl h, fun _ h => h, Pfx.refl⟩, st2⟩
  rcases sp2.grow c o e with h | h | h | h
  · rcases sp1.grow c o h with h | h | h | h
    · exact .inl h
    · exact .inr (.inl (by simp only [List.mem_append] at h ⊢; grind))
    · exact .inr (.inr (.inl h))
    · exact .inr (.inr (.inr h))
  · exact .inr (.inl (by simp only [List.mem_append] at h ⊢; grind))
  · exact .inr (.inr (.inl h))
  · exact .inr (.inr (.inr h))
theorem rss_dat {K : PySem.W.Frag} {Φ H : Hp} {A : List Addr} : ∀ {vs : List V} {ds : List D}, Rps K Φ vs ds → RSs K Φ H A vs (ds.map SV.dat) []
  | _, _, .nil => .nil
  | _, _, .cons q r => .cons (F := []) (.dat q) (rss_dat r)
/-- the end of an operator that makes a list of frozen items -/
theorem end_list {K : PySem.W.Frag} {S : Sto} {σ : Sl} {H Φ Φ' : Hp} {A F F0 G : List Addr} {Q : VK} {vs : List V} {ds : List D} {p : Addr}
    (q : ∀ v H' Φ' A' V F' G', Step F0 G H Φ A (V ++ F') G' H' Φ' A' → Stands K S σ H' Φ' A' F' G' → RV K Φ' H' A' S σ v (.val (.own (ds.map SV.dat))) V → (V ++ (F' ++ G')).Nodup → Frz S S → Q v H')
    (sp : Step F0 G H Φ A F G H Φ' A) (st : Stands K S σ H Φ' A F G) (r : Rps K Φ' vs ds) (hp : H p = none) : Q (.ref p) (upd H p (.lst vs)) := by
  obtain ⟨n1, n2, n3, n4⟩ := new_list st (rss_dat (H := H) (A := A) r) (by simpa using st.nd) hp
  exact q (.ref p) _ _ _ [p] F G (sp.trans0 n1) n2 n3 n4 .refl
theorem end_tup {K : PySem.W.Frag} {S : Sto} {σ : Sl} {H Φ Φ' : Hp} {A F F0 G : List Addr} {Q : VK} {vs : List V} {ds : List D} {p : Addr}
    (q : ∀ v H' Φ' A' V F' G', Step F0 G H Φ A (V ++ F') G' H' Φ' A' → Stands K S σ H' Φ' A' F' G' → RV K Φ' H' A' S σ v (.d (.tup ds)) V → (V ++ (F' ++ G')).Nodup → Frz S S → Q v H')
    (sp : Step F0 G H Φ A F G H Φ' A) (st : Stands K S σ H Φ' A F G) (r : Rps K Φ' vs ds) (hp : H p = none) : Q (.ref p) (upd H p (.tup vs)) := by
  obtain ⟨n1, n2, n3⟩ := new_frz (o := .tup vs) st hp
  exact q (.ref p) _ _ _ [] F G (sp.trans0 n1) n2 (RS.dat (.tup upd_same (r.mono n3))) (by simpa using n2.nd) .refl
def rCatR (K : PySem.W.Frag) : R2 := fun x y H Q => ∃ l b xs zs, x = .ref l ∧ y = .ref b ∧ SqL K H l xs ∧ SqL K H b zs ∧ xs.length + zs.length ≤ sizeLine ∧ ∀ p, H p = none → Q (.ref p) (upd H p (.lst (xs ++ zs)))
theorem op_catR {X : Cx} : OpR X (binaryOp .Add) (rCatR X.K) := by
  rintro pins s σ H x y v u Q I rx ry ⟨l, b, xs, zs, rfl, rfl, hl, hb, hz, q⟩
  cases rx
  cases ry
  obtain ⟨its, r1, pl1, _⟩ := I.list hl
  obtain ⟨its2, r2, pl2, _⟩ := I.list hb
  have l1 := r1.length
  have l2 := r2.length
  obtain ⟨⟨cls, dd, data, sl⟩, ho, hc, m, hd⟩ := id pl1.isList
  obtain ⟨⟨cls2, dd2, data2, sl2⟩, ho2, hc2, m2, hd2⟩ := id pl2.isList
  simp only at hc hd hc2 hd2
  subst hc hd hc2 hd2
  have e : its.toArray ++ its2.toArray = (its ++ its2).toArray := by simp
  refine concat_meets ⟨_, ho, rfl⟩ ⟨_, ho2, rfl⟩ noFill_list_add seq_list_add PySem.F.slot_list_add PySem.F.entry_list_add (PySem.F.args_list_add_2 _ _) (list_addW l b its.toArray its2.toArray m m2 dd dd2 sl sl2 (by simp only [List.size_toArray]; omega)) ⟨ho, ho2, ?_⟩
  rw [e]
  exact ⟨.ref _, _, I.lnew (t' := s.toks) (r1.append r2) (by rw [List.length_append]; omega), rfl, q _ I.fresh⟩
def gCat : G2 := fun ra rb S => match ra.its S, rb.its S with
  | some (false, xs), some (false, ys) => if xs.length + ys.length ≤ 1000000 then some (.val (.own ((xs ++ ys).map SV.dat)), S) else none
  | _, _ => none
theorem k1000000 {n : Nat} (h : n ≤ 1000000) : n ≤ sizeLine := Nat.le_trans h (by rw [sizeLine_eq]; decide)
theorem og_cat {K : PySem.W.Frag} : OpG K (rCatR K) gCat := by
  intro S σ H Φ A F G x y ra rb T U st rx ry nd rz S' e Q q
  unfold gCat at e
  cases e1 : ra.its S with
  | none => rw [e1] at e; cases e
  | some z1 =>
    obtain ⟨t1, xs⟩ := z1
    cases e2 : rb.its S with
    | none => rw [e1, e2] at e; cases t1 <;> cases e
    | some z2 =>
      obtain ⟨t2, ys⟩ := z2
      rw [e1, e2] at e
      cases t1 <;> cases t2 <;> try cases e
      dsimp only at e
      split at e
      · rename_i hl
        cases e
        obtain ⟨Φ', a, b, vs, ws, rfl, rfl, s1, s2, r1, r2, sp, st'⟩ := its2_ok st rx ry nd e1 e2
        have s1 : SqL K H a vs := s1
        have s2 : SqL K H b ws := s2
        refine ⟨a, b, vs, ws, rfl, rfl, s1, s2, by rw [r1.length, r2.length]; exact k1000000 hl, fun p hp => ?_⟩
        exact end_list q sp st' (r1.append r2) hp
      · cases e
def gCatT : G2 := fun ra rb S => match ra.its S, rb.its S with
  | some (true, xs), some (true, ys) => if xs.length + ys.length ≤ 1000000 then some (.d (.tup (xs ++ ys)), S) else none
  | _, _ => none
theorem its_tup {S : Sto} {r : R} {ds : List D} (e : r.its S = some (true, ds)) : r.sv S = some (.dat (.tup ds)) := by
  unfold R.its at e
  cases ex : r.sv S with
  | none => rw [ex] at e; cases e
  | some x =>
    rw [ex] at e
    cases x with
    | cell k => cases e
    | dat d => cases d <;> cases e; rfl
    | node n xs =>
      cases n <;> try cases e
      cases r with
      | val y =>
        have e : (peeks xs).map (fun ds => (false, ds)) = some (true, ds) := e
        cases e2 : peeks xs <;> rw [e2] at e <;> cases e
      | bor i p =>
        have e : (dats xs).map (fun ds => (false, ds)) = some (true, ds) := e
        cases e2 : dats xs <;> rw [e2] at e <;> cases e
theorem og_catT {K : PySem.W.Frag} : OpG K (rCatA K) gCatT := by
  intro S σ H Φ A F G x y ra rb T U st rx ry nd rz S' e Q q
  unfold gCatT at e
  cases e1 : ra.its S with
  | none => rw [e1] at e; cases e
  | some z1 =>
    obtain ⟨t1, xs⟩ := z1
    cases e2 : rb.its S with
    | none => rw [e1, e2] at e; cases t1 <;> cases e
    | some z2 =>
      obtain ⟨t2, ys⟩ := z2
      rw [e1, e2] at e
      cases t1 <;> cases t2 <;> try cases e
      dsimp only at e
      split at e
      · rename_i hl
        cases e
        have d1 := rx.dat st (its_tup e1)
        have d2 := ry.dat st (its_tup e2)
        have stay : Step (T ++ (U ++ F)) G H Φ A ([] ++ F) G H Φ A := ⟨fun _ _ e _ => e, fun _ _ e => e, fun _ _ e => .inl e, fun b hb => .inl (by simp only [List.nil_append] at hb; simp [hb]), fun _ h => .inl h, fun _ h => h, Pfx.refl⟩
        cases d1 with
        | tup s1 r1 =>
          rename_i a vs
          cases d2 with
          | tup s2 r2 =>
            rename_i b ws
            refine ⟨a, b, vs, ws, rfl, rfl, .inl (.inl (st.le _ _ s1)), .inl (.inl (st.le _ _ s2)), by rw [r1.length, r2.length]; exact k1000000 hl, fun hv => ?_, fun hv hw => ?_, fun hv hw p hp => ?_⟩
            · subst hv; cases r1
              exact q _ H Φ A [] F G stay st (RS.dat (.tup s2 r2)) (by simpa using st.nd) .refl
            · subst hw; cases r2
              refine q _ H Φ A [] F G stay st (RS.dat ?_) (by simpa using st.nd) .refl
              rw [List.append_nil]; exact .tup s1 r1
            · exact end_tup q stay st (r1.append r2) hp
      · cases e
def sAdd : D → D → Option D
  | .str x, .str y => if x.length + y.length ≤ 1000000 then some (.str (x ++ y)) else none
  | _, _ => none
theorem sAdd_some {dx dy z : D} (e : sAdd dx dy = some z) : ∃ x y, dx = .str x ∧ dy = .str y ∧ x.length + y.length ≤ 1000000 ∧ z = .str (x ++ y) := by
  unfold sAdd at e
  split at e
  · split at e
    · cases e; exact ⟨_, _, rfl, rfl, by assumption, rfl⟩
    · cases e
  · cases e
theorem og_addS {K : PySem.W.Frag} : OpG K (fun x y H Q => ∃ i j, x = .str i ∧ y = .str j ∧ i.length + j.length ≤ sizeLine ∧ Q (.str (i ++ j)) H) (g2 sAdd) := opG_scal fun H x y dx dy z rx ry e Q q => by
  obtain ⟨i, j, rfl, rfl, hl, rfl⟩ := sAdd_some e
  cases rx
  cases ry
  exact ⟨_, _, rfl, rfl, k1000000 hl, q _ fun H' => .str _⟩
theorem og_addI {K : PySem.W.Frag} : OpG K (rI0 fun i j => .int (i + j)) (g2 (dI iAdd)) := opG_int0 fun i j z e H => by cases e; exact .int _
def gAdd : G2 := fun ra rb S => (g2 (dI iAdd) ra rb S).orElse fun _ => (g2 sAdd ra rb S).orElse fun _ => (gCat ra rb S).orElse fun _ => gCatT ra rb S
def rAddP (K : PySem.W.Frag) : R2 := fun x y H Q => rI0 (fun i j => .int (i + j)) x y H Q ∨ ((∃ i j, x = .str i ∧ y = .str j ∧ i.length + j.length ≤ sizeLine ∧ Q (.str (i ++ j)) H) ∨ (rCatR K x y H Q ∨ rCatA K x y H Q))
theorem op_addP {X : Cx} : OpR X (binaryOp .Add) (rAddP X.K) := op_add.or (op_add_str.or (op_catR.or op_catA))
theorem og_addP {K : PySem.W.Frag} : OpG K (rAddP K) gAdd := og_addI.or (og_addS.or (og_cat.or og_catT))
section
variable {X : Cx} {W : WX} {a b c : Expr} {pos : Pos} {ta tb tc : TE} {fa fb fc : FE}
theorem de_add (ha : DE X W a ta fa) (hb : DE X W b tb fb) : DE X W (.BinOp a .Add b pos) (tOp (rAddP X.K) ta tb) (fBin gAdd fa fb) := de_bin op_addP og_addP ha hb
theorem de_sub (ha : DE X W a ta fa) (hb : DE X W b tb fb) : DE X W (.BinOp a .Sub b pos) (tOp (rI0 fun i j => .int (i - j)) ta tb) (fBin (g2 (dI iSub)) fa fb) := de_bin op_sub og_sub ha hb
theorem de_fdiv (ha : DE X W a ta fa) (hb : DE X W b tb fb) : DE X W (.BinOp a .FloorDiv b pos) (tOp (rI CDiv fun i j => .int (i / j)) ta tb) (fBin (g2 (dI iDiv)) fa fb) := de_bin op_fdiv og_div ha hb
theorem de_mod (ha : DE X W a ta fa) (hb : DE X W b tb fb) : DE X W (.BinOp a .Mod b pos) (tOp (rI (fun _ j => 0 < j) fun i j => .int (i % j)) ta tb) (fBin (g2 (dI iMod)) fa fb) := de_bin op_mod og_mod ha hb
theorem de_pow (ha : DE X W a ta fa) (hb : DE X W b tb fb) : DE X W (.BinOp a .Pow b pos) (tOp (rI CPow fun i j => .int (i ^ j.toNat)) ta tb) (fBin (g2 (dI iPow)) fa fb) := de_bin op_pow og_pow ha hb
end
/-! ### * -/
theorem og_mulI {K : PySem.W.Frag} : OpG K (rI CMul fun i j => .int (i * j)) (g2 (dI iMul)) := opG_int fun i j z e => by
  unfold iMul at e; split at e
  · cases e; exact ⟨by assumption, fun H => .int _⟩
  · cases e
/-- a list so many times -/
def gRep : G2 := fun ra rb S => match ra.its S, rb.peek S with
  | some (false, xs), some (.int k) => if 0 ≤ k ∧ k ≤ 1000000 ∧ xs.length * k.toNat ≤ 1000000 then some (.val (.own ((List.replicate k.toNat xs).flatten.map SV.dat)), S) else none
  | _, _ => none
def rRepR : R2 := fun x y H Q => ∃ l k xs, x = .ref l ∧ y = .int k ∧ H l = some (.lst xs) ∧ -(2 ^ 63) ≤ k ∧ k < 2 ^ 63 ∧ xs.length * k.toNat ≤ sizeLine ∧ ∀ p, H p = none → Q (.ref p) (upd H p (.lst (List.replicate k.toNat xs).flatten))
theorem rps_rep {K : PySem.W.Frag} {H : Hp} {vs : List V} {ds : List D} (h : Rps K H vs ds) : ∀ k : Nat, Rps K H (List.replicate k vs).flatten (List.replicate k ds).flatten
  | 0 => .nil
  | k + 1 => by
    rw [List.replicate_succ, List.replicate_succ, List.flatten_cons, List.flatten_cons]
    exact h.append (rps_rep h k)
/-- a text so many times; a tuple so many times -/
def sMul : D → D → Option D
  | .str x, .int k => if 0 ≤ k ∧ k ≤ 1000000 ∧ x.length * k.toNat ≤ 1000000 then some (.str ⟨(List.replicate k.toNat x.cps.toList).flatten.toArray⟩) else none
  | _, _ => none

/-! ### the order -/
def strLt (x y : Str) : Bool := decide (x.cps.toList < y.cps.toList)
end L3

namespace L3
open PySem PySem.Spec PyProof.Rows L2

/-! ### dicts asked: by text, int or tuple keys -/
def D.key : D → Option Key
  | .int i => some (.inl i)
  | .str x => some (.inr x)
  | _ => none
def keysD : List D → Option (List Key)
  | [] => some []
  | d :: ds => (d.key).bind fun k => (keysD ds).map fun ks => k :: ks
def look {κ : Type} [DecidableEq κ] (k : κ) : List κ → List SV → Option SV
  | j :: ks, x :: xs => if j = k then some x else look k ks xs
  | _, _ => none
/-- what a dict has at a key: none of no dict, or of no key of its kind; some none where it has nothing -/
def nget (n : Nd) (xs : List SV) (k : D) : Option (Option SV) := match n with
  | .dK ks => (k.key).map fun k => look k ks xs
  | .dT ks => match k with
    | .tup ds => (keysD ds).map fun k => look k ks xs
    | _ => none
  | _ => none
def SV.dget (S : Sto) (x : SV) (k : D) : Option (Option SV) := match x with
  | .cell c => match S.μ[c]? with
    | some (.node n xs) => nget n xs k
    | _ => none
  | .node n xs => nget n xs k
  | .dat (.dK ks ds) => nget (.dK ks) (ds.map SV.dat) k
  | .dat (.dT ks ds) => nget (.dT ks) (ds.map SV.dat) k
  | _ => none
section
variable {K : PySem.W.Frag} {S : Sto} {σ : Sl} {H Φ : Hp} {A F G T : List Addr} {v : V} {r : R}
theorem key_rp {H : Hp} {v : V} {d : D} {k : Key} (h : Rp K H v d) (e : d.key = some k) : v = kV k := by
  cases h <;> cases e <;> rfl
theorem keys_rps {H : Hp} : ∀ {vs : List V} {ds : List D} {ks : List Key}, Rps K H vs ds → keysD ds = some ks → vs = ks.map kV
  | _, _, _, .nil, e => by rw [keysD] at e; cases e; rfl
  | _, _, ks, .cons (d := d) (ds := ds) q r, e => by
    rw [keysD] at e
    cases e1 : d.key with
    | none => rw [e1] at e; cases e
    | some k =>
      cases e2 : keysD ds with
      | none => rw [e1, e2] at e; cases e
      | some js => rw [e1, e2] at e; cases e; rw [key_rp q e1, keys_rps r e2]; rfl
theorem look_val {κ : Type} [DecidableEq κ] {A : List Addr} (k : κ) :
    ∀ {ks : List κ} {vs : List V} {xs : List SV} {U : List Addr}, ks.length = vs.length → RSs K Φ H A vs xs U → (look k ks xs = none → valV (ks.zip vs) k = none) ∧ ∀ x, look k ks xs = some x → ∃ v U', valV (ks.zip vs) k = some v ∧ RS K Φ H A v x U' ∧ (∀ b ∈ U', b ∈ U)
  | [], [], _, _, _, .nil => ⟨fun _ => rfl, fun x h => by rw [look] at h; cases h; intros; contradiction⟩
  | j :: ks, v :: vs, _, _, hk, .cons (x := x0) (xs := xs) (F := F0) (G := G0) q r => by
    have ih := look_val k (ks := ks) (by simpa using hk) r
    rw [look, List.zip_cons_cons]
    by_cases e : j = k
    · rw [if_pos e]
      refine ⟨fun h => (by cases h), fun x h => ?_⟩
      cases h
      exact ⟨v, F0, valV_pos e, q, fun b hb => List.mem_append_left _ hb⟩
    · rw [if_neg e, valV_neg (p := (j, v)) e]
      refine ⟨ih.1, fun x h => ?_⟩
      obtain ⟨w, U', h1, h2, h3⟩ := ih.2 x h
      exact ⟨w, U', h1, h2, fun b hb => List.mem_append_right _ (h3 b hb)⟩
  | [], _ :: _, _, _, hk, _ => by simp at hk
  | _ :: _, [], _, _, hk, _ => by simp at hk
/-- a dict's node stands at a -/
def NdAt (H : Hp) (a : Addr) (n : Nd) (vs : List V) : Prop := match n with
  | .dK ks => Rd H a (.dK (ks.zip vs))
  | .dT ks => Rd H a (.dT (ks.zip vs))
  | _ => False
theorem nget_ok {n : Nd} {vs : List V} {xs : List SV} {U0 : List Addr} {a : Addr} {y : V} {k : D} {o : Option SV} (hn : NdAt H a n vs) (hl : n.len vs.length) (rs : RSs K Φ H A vs xs U0) (hk : Rp K H y k) (hf : ∀ a ds, y = .ref a → k = .tup ds → ∃ vs, H a = some (.tup vs) ∧ Rps K H vs ds) (e : nget n xs k = some o) :
    ∃ ov, DGet H a y ov ∧ ((o = none ∧ ov = none) ∨ ∃ z w U', o = some z ∧ ov = some w ∧ RS K Φ H A w z U' ∧ (∀ b ∈ U', b ∈ U0)) := by
  cases n with
  | lst => cases e
  | ins C dx ks => cases e
  | dK ks =>
    have e : (k.key).map (fun k => look k ks xs) = some o := e
    cases ek : k.key with
    | none => rw [ek] at e; cases e
    | some j =>
      rw [ek] at e
      have e : some (look j ks xs) = some o := e
      obtain ⟨l1, l2⟩ := look_val j hl rs
      have ey := key_rp hk ek
      subst ey
      cases o with
      | none => exact ⟨none, .inl ⟨_, _, hn, rfl, (l1 (Option.some.inj e)).symm⟩, .inl ⟨rfl, rfl⟩⟩
      | some z =>
        obtain ⟨w, U', h1, h2, h3⟩ := l2 z (Option.some.inj e)
        exact ⟨some w, .inl ⟨_, _, hn, rfl, h1.symm⟩, .inr ⟨z, w, U', rfl, rfl, h2, h3⟩⟩
  | dT ks =>
    cases k with
    | tup ds =>
      have e : (keysD ds).map (fun k => look k ks xs) = some o := e
      cases ek : keysD ds with
      | none => rw [ek] at e; cases e
      | some j =>
        rw [ek] at e
        have e : some (look j ks xs) = some o := e
        obtain ⟨l1, l2⟩ := look_val j hl rs
        cases hk with
        | tup sq rr =>
          rename_i b ws
          obtain ⟨ws', et, rr'⟩ := hf b ds rfl rfl
          have ew := keys_rps rr' ek
          subst ew
          cases o with
          | none => exact ⟨none, .inr ⟨_, _, _, hn, rfl, et, (l1 (Option.some.inj e)).symm⟩, .inl ⟨rfl, rfl⟩⟩
          | some z =>
            obtain ⟨w, U', h1, h2, h3⟩ := l2 z (Option.some.inj e)
            exact ⟨some w, .inr ⟨_, _, _, hn, rfl, et, h1.symm⟩, .inr ⟨z, w, U', rfl, rfl, h2, h3⟩⟩
    | _ => cases e
/-- what DGet wants, for a key told as a datum -/
theorem dget_ok {x : SV} {U : List Addr} {y : V} {k : D} {o : Option SV} (st : Stands K S σ H Φ A F G) (h : RS K Φ H A v x U) (hk : Rp K H y k) (hf : ∀ a ds, y = .ref a → k = .tup ds → ∃ vs, H a = some (.tup vs) ∧ Rps K H vs ds) (e : x.dget S k = some o) :
    ∃ a ov, v = .ref a ∧ DGet H a y ov ∧ ((o = none ∧ ov = none) ∨ ∃ z w U', o = some z ∧ ov = some w ∧ RS K Φ H A w z U' ∧ (∀ b ∈ U', b ∈ U ∨ b ∈ G)) := by
  have fin : ∀ {a : Addr} {n : Nd} {vs : List V} {xs : List SV} {U0 : List Addr}, v = .ref a → NdAt H a n vs → n.len vs.length → RSs K Φ H A vs xs U0 → nget n xs k = some o → (∀ b ∈ U0, b ∈ U ∨ b ∈ G) →
      ∃ a ov, v = .ref a ∧ DGet H a y ov ∧ ((o = none ∧ ov = none) ∨ ∃ z w U', o = some z ∧ ov = some w ∧ RS K Φ H A w z U' ∧ (∀ b ∈ U', b ∈ U ∨ b ∈ G)) := fun {a n vs xs U0} hv h1 h2 h3 h4 h5 => by
    obtain ⟨ov, g, c⟩ := nget_ok h1 h2 h3 hk hf h4
    refine ⟨a, ov, hv, g, c.imp id ?_⟩
    rintro ⟨z, w, U', q1, q2, q3, q4⟩
    exact ⟨z, w, U', q1, q2, q3, fun b hb => h5 b (q4 b hb)⟩
  have nd : ∀ {a : Addr} {n : Nd} {vs : List V}, H a = some (n.ho vs) → (∀ xs, nget n xs k ≠ none → NdAt H a n vs) := fun {a n vs} ea xs hn => by
    cases n with
    | lst => exact absurd rfl hn
    | ins C dx ks => exact absurd rfl hn
    | dK ks => exact .inl ea
    | dT ks => exact .inl ea
  cases x with
  | dat d =>
    cases h with
    | dat q =>
      cases d <;> try cases e
      · cases q with
        | dK rd hl rr => exact fin (n := .dK _) rfl (Rd.mono st.le rd) hl (rss_dat rr) e (fun b hb => by simp at hb)
      · cases q with
        | dT rd hl rr => exact fin (n := .dT _) rfl (Rd.mono st.le rd) hl (rss_dat rr) e (fun b hb => by simp at hb)
  | node n xs =>
    cases h with
    | node ea f pa q =>
      have e : nget n xs k = some o := e
      exact fin rfl (nd ea xs (by rw [e]; simp)) f.1 q e (fun b hb => .inl (List.mem_cons_of_mem _ hb))
  | cell c =>
    cases h with
    | cell hc =>
      unfold SV.dget at e
      dsimp only at e
      cases em : S.μ[c]? with
      | none => rw [em] at e; cases e
      | some x =>
        rw [em] at e
        obtain ⟨a, F1, Fi, F2, e1, e2, rs, _⟩ := st.rc.at em
        rw [hc] at e1; cases e1
        cases x with
        | dat d => cases e
        | cell c => cases e
        | node n xs =>
          cases rs with
          | node ea f pa q =>
            have e : nget n xs k = some o := e
            exact fin rfl (nd ea xs (by rw [e]; simp)) f.1 q e (fun b hb => .inr (by rw [e2]; simp [hb]))
end
end L3

namespace L3
open PySem PySem.Spec PyProof.Rows L2

/-! ### x[i] -/
def intOf : D → Option Int
  | .int i => some i
  | _ => none
theorem intOf_some {d : D} {i : Int} (h : intOf d = some i) : d = .int i := by
  cases d <;> cases h; rfl
/-- a result out of an owned list -/
def kidR (ra : R) (j : Nat) : SV → Option R
  | .dat d => some (.d d)
  | .cell c => some (.val (.cell c))
  | .node _ _ => match ra with
    | .bor i p => some (.bor i (p ++ [j]))
    | .val _ => none
def gIxS : G2 := fun ra rb S => (rb.peek S).bind fun k => (intOf k).bind fun i => match ra.sv S with
  | some (.dat (.lst ds)) => (atI ds i).map fun d => (.d d, S)
  | some (.dat (.tup ds)) => (atI ds i).map fun d => (.d d, S)
  | some (.dat (.kt ds)) => (atI ds i).map fun d => (.d d, S)
  | some (.dat (.str x)) => if x.length ≤ 1000000 then (atI x.cps.toList i).map fun c => (.d (.str ⟨#[c]⟩), S) else none
  | some (.node .lst xs) => (ixN xs.length i).bind fun j => (xs[j]?).bind fun x => (kidR ra j x).map fun r => (r, S)
  | _ => none
/-- where a key stands -/
def idxK {κ : Type} [DecidableEq κ] (k : κ) : List κ → Option Nat
  | [] => none
  | j :: ks => if j = k then some 0 else (idxK k ks).map (· + 1)
def nidx (n : Nd) (k : D) : Option (Option Nat) := match n with
  | .dK ks => (k.key).map fun k => idxK k ks
  | .dT ks => match k with
    | .tup ds => (keysD ds).map fun k => idxK k ks
    | _ => none
  | _ => none
/-- what a dict has at a key, as a result; a list within it is told where it stands -/
def got2 : Option SV → Option (Option R)
  | none => some none
  | some (.dat d) => some (some (.d d))
  | some (.cell c) => some (some (.val (.cell c)))
  | some (.node _ _) => none
def dgX (ro : R) (k : D) (S : Sto) : SV → Option (Option R)
  | .node n xs => (nidx n k).bind fun oj => match oj with
    | none => some none
    | some j => (xs[j]?).bind fun y => (kidR ro j y).map some
  | .dat d => ((SV.dat d).dget S k).bind got2
  | .cell c => ((SV.cell c).dget S k).bind got2
def dgetR (ro : R) (k : D) (S : Sto) : Option (Option R) := (ro.sv S).bind fun x => dgX ro k S x
def gIxD : G2 := fun ra rb S => (rb.peek S).bind fun k => (dgetR ra k S).bind fun o => o.map fun r => (r, S)
section
variable {K : PySem.W.Frag} {S : Sto} {σ : Sl} {H Φ : Hp} {A F G T U : List Addr} {v x y : V} {r ra rb : R}
theorem atI_rps {H : Hp} {vs : List V} {ds : List D} {i : Int} {d : D} (h : Rps K H vs ds) (e : atI ds i = some d) : ∃ v, atI vs i = some v ∧ Rp K H v d := by
  unfold atI at e ⊢
  rw [h.length]
  cases ej : ixN ds.length i with
  | none => rw [ej] at e; cases e
  | some j =>
    rw [ej] at e
    exact h.get' e
theorem stay2 : Step (T ++ (U ++ F)) G H Φ A ([] ++ F) G H Φ A := ⟨fun _ _ e _ => e, fun _ _ e => e, fun _ _ e => .inl e, fun b hb => .inl (by simp only [List.nil_append] at hb; simp [hb]), fun _ h => .inl h, fun _ h => h, Pfx.refl⟩
theorem At.snoc {H : Hp} {v0 : V} {p : List Nat} {a : Addr} {n : Nd} {vs : List V} {k : Nat} {u : V} (h : At H v0 p (.ref a)) (e : H a = some (n.ho vs)) (f : n.fits vs.length) (g : vs[k]? = some u) : At H v0 (p ++ [k]) u := by
  generalize hw : (V.ref a) = w at h
  induction h with
  | nil => subst hw; exact .cons e f g .nil
  | cons e1 f1 g1 _ ih => exact .cons e1 f1 g1 (ih hw)
theorem sub_snoc {x0 : SV} : ∀ {p : List Nat} {n : Nd} {xs : List SV} {k : Nat} {y : SV}, x0.sub (p ++ [k]) = some y → x0.sub p = some (.node n xs) → xs[k]? = some y := by
  intro p
  induction p generalizing x0 with
  | nil =>
    intro n xs k y h e
    have e : some x0 = some (.node n xs) := by rw [← e]; cases x0 <;> rfl
    cases e
    have h : (match xs[k]? with | some y => y.sub [] | none => none) = some y := h
    cases ek : xs[k]? with
    | none => rw [ek] at h; cases h
    | some z => rw [ek] at h; rw [← h]; cases z <;> rfl
  | cons j p ih =>
    intro n xs k y h e
    cases x0 with
    | dat d => cases e
    | cell c => cases e
    | node m zs =>
      have h : (match zs[j]? with | some y => y.sub (p ++ [k]) | none => none) = some y := h
      have e : (match zs[j]? with | some y => y.sub p | none => none) = some (.node n xs) := e
      cases ek : zs[j]? with
      | none => rw [ek] at h; cases h
      | some z => rw [ek] at h e; exact ih h e
theorem og_ixS : OpG K (rIx K) gIxS := by
  intro S σ H Φ A F G x y ra rb T U st rx ry nd rz S' e Q q
  unfold gIxS at e
  cases ek : rb.peek S with
  | none => rw [ek] at e; cases e
  | some k =>
    rw [ek] at e
    have e : (intOf k).bind _ = some (rz, S') := e
    cases ei : intOf k with
    | none => rw [ei] at e; cases e
    | some i =>
      rw [ei] at e
      cases intOf_some ei
      have hy : y = .int i := by cases ry.rp st ek; rfl
      subst hy
      cases ex : ra.sv S with
      | none => rw [ex] at e; cases e
      | some a =>
        rw [ex] at e
        obtain ⟨Ua, qa, hUa⟩ := rx.rs st ex
        cases a with
        | cell c => cases e
        | dat d =>
          cases qa with
          | dat qa =>
            cases d <;> try cases e
            · -- a text
              rename_i z
              have e : (if z.length ≤ 1000000 then (atI z.cps.toList i).map fun c => (R.d (.str ⟨#[c]⟩), S) else none) = some (rz, S') := e
              by_cases hl : z.length ≤ 1000000
              · rw [if_pos hl] at e
                cases ec : atI z.cps.toList i with
                | none => rw [ec] at e; cases e
                | some c =>
                  rw [ec] at e; cases e
                  cases qa
                  exact .inr (.inr ⟨z, i, c, rfl, rfl, k1000000 hl, ec, q _ H Φ A [] F G stay2 st (RS.dat (.str _)) (by simpa using st.nd) .refl⟩)
              · rw [if_neg hl] at e; cases e
            · rename_i ds
              have e : (atI ds i).map (fun d => (R.d d, S)) = some (rz, S') := e
              cases ed : atI ds i with
              | none => rw [ed] at e; cases e
              | some d =>
                rw [ed] at e; cases e
                cases qa with
                | lst rd rr =>
                  obtain ⟨u, eu, ru⟩ := atI_rps rr ed
                  exact .inl ⟨_, _, i, u, rfl, rfl, .inl (.inl (st.le _ _ rd)), eu, q _ H Φ A [] F G stay2 st (RS.dat ru) (by simpa using st.nd) .refl⟩
            · rename_i ds
              have e : (atI ds i).map (fun d => (R.d d, S)) = some (rz, S') := e
              cases ed : atI ds i with
              | none => rw [ed] at e; cases e
              | some d =>
                rw [ed] at e; cases e
                cases qa with
                | tup rd rr =>
                  obtain ⟨u, eu, ru⟩ := atI_rps rr ed
                  exact .inr (.inl ⟨_, _, i, u, rfl, rfl, .inl (.inl (st.le _ _ rd)), eu, q _ H Φ A [] F G stay2 st (RS.dat ru) (by simpa using st.nd) .refl⟩)
            · rename_i ds
              have e : (atI ds i).map (fun d => (R.d d, S)) = some (rz, S') := e
              cases ed : atI ds i with
              | none => rw [ed] at e; cases e
              | some d =>
                rw [ed] at e; cases e
                cases qa with
                | kt rd rr =>
                  obtain ⟨u, eu, ru⟩ := atI_rps rr ed
                  exact .inr (.inl ⟨_, _, i, u, rfl, rfl, sqT_mono st.le rd, eu, q _ H Φ A [] F G stay2 st (RS.dat ru) (by simpa using st.nd) .refl⟩)
        | node n xs =>
          cases n <;> try cases e
          have e : (ixN xs.length i).bind (fun j => (xs[j]?).bind fun x => (kidR ra j x).map fun r => (r, S)) = some (rz, S') := e
          cases ej : ixN xs.length i with
          | none => rw [ej] at e; cases e
          | some j =>
            rw [ej] at e
            have e : (xs[j]?).bind (fun x => (kidR ra j x).map fun r => (r, S)) = some (rz, S') := e
            cases exj : xs[j]? with
            | none => rw [exj] at e; cases e
            | some xj =>
              rw [exj] at e
              have e : (kidR ra j xj).map (fun r => (r, S)) = some (rz, S') := e
              cases qa with
              | node ea f pa qs =>
                rename_i a vs Fs
                obtain ⟨u, E1, Ei, E2, gu, eE, qu, _⟩ := RSs.at qs exj
                have eu : atI vs i = some u := by
                  unfold atI
                  rw [qs.length, ej]
                  exact gu
                refine .inl ⟨_, _, i, u, rfl, rfl, .inl (.inl ea), eu, ?_⟩
                cases xj with
                | dat d =>
                  cases e
                  cases qu with
                  | dat qu => exact q _ H Φ A [] F G stay2 st (RS.dat qu) (by simpa using st.nd) .refl
                | cell c =>
                  cases e
                  cases qu with
                  | cell qu => exact q _ H Φ A [] F G stay2 st (RS.cell qu) (by simpa using st.nd) .refl
                | node m ys =>
                  cases ra with
                  | val z => cases e
                  | bor i0 p =>
                    cases e
                    obtain ⟨rfl, v0, e0, hp, hat⟩ := rx
                    have hat0 := hat _ (show S.sub i0 p = some (.node .lst xs) from ex)
                    refine q _ H Φ A [] F G stay2 st ⟨rfl, v0, e0, fun z => by simp at z, fun z hz => ?_⟩ (by simpa using st.nd) .refl
                    exact hat0.snoc ea f gu
theorem dget_key {k : D} (rk : Rp K H y k) : ∀ (a : Addr) (ds : List D), y = .ref a → k = .tup ds → ∃ vs, H a = some (.tup vs) ∧ Rps K H vs ds := fun a ds e1 e2 => by
  subst e1 e2
  cases rk with
  | tup q r => exact ⟨_, q, r⟩
theorem idx_val {κ : Type} [DecidableEq κ] {k : κ} : ∀ {ks : List κ} {vs : List V}, ks.length = vs.length → (idxK k ks = none → valV (ks.zip vs) k = none) ∧ ∀ j, idxK k ks = some j → valV (ks.zip vs) k = vs[j]?
  | [], _, _ => ⟨fun _ => rfl, fun j h => (by cases h)⟩
  | i :: ks, v :: vs, hl => by
    have ih := idx_val (k := k) (ks := ks) (vs := vs) (by simpa using hl)
    rw [idxK, List.zip_cons_cons]
    by_cases e : i = k
    · rw [if_pos e]
      exact ⟨fun h => (by cases h), fun j h => (by cases h; rw [valV_pos e]; rfl)⟩
    · rw [if_neg e, valV_neg (p := (i, v)) e]
      cases ei : idxK k ks with
      | none => exact ⟨fun _ => ih.1 ei, fun j h => (by cases h)⟩
      | some j => exact ⟨fun h => (by cases h), fun j' h => (by cases h; rw [ih.2 j ei]; rfl)⟩
  | _ :: _, [], hl => by simp at hl
theorem dgetR_ok {ro : R} {k : D} {o : Option R} (st : Stands K S σ H Φ A F G) (rx : RV K Φ H A S σ v ro T) (rk : Rp K H y k) (e : dgetR ro k S = some o) :
    ∃ a ov, v = .ref a ∧ DGet H a y ov ∧ ((o = none ∧ ov = none) ∨ ∃ r w, o = some r ∧ ov = some w ∧ RV K Φ H A S σ w r []) := by
  unfold dgetR at e
  cases ex : ro.sv S with
  | none => rw [ex] at e; cases e
  | some x =>
    rw [ex, Option.bind_some] at e
    obtain ⟨Ua, qa, hUa⟩ := rx.rs st ex
    have gen : ∀ {o2}, x.dget S k = some o2 → got2 o2 = some o → ∃ a ov, v = .ref a ∧ DGet H a y ov ∧ ((o = none ∧ ov = none) ∨ ∃ r w, o = some r ∧ ov = some w ∧ RV K Φ H A S σ w r []) := fun {o2} eg e => by
      obtain ⟨a, ov, hv, dg, cs⟩ := dget_ok st qa rk (dget_key rk) eg
      refine ⟨a, ov, hv, dg, ?_⟩
      rcases cs with ⟨rfl, rfl⟩ | ⟨z, w, U', rfl, rfl, q, _⟩
      · cases e; exact .inl ⟨rfl, rfl⟩
      · cases z with
        | dat d => cases e; cases q with | dat q => exact .inr ⟨_, w, rfl, rfl, RS.dat q⟩
        | cell c => cases e; cases q with | cell q => exact .inr ⟨_, _, rfl, rfl, RS.cell q⟩
        | node n xs => cases e
    cases x with
    | dat d =>
      cases eg : (SV.dat d).dget S k with
      | none => simp only [dgX, eg] at e; cases e
      | some o2 => simp only [dgX, eg, Option.bind_some] at e; exact gen eg e
    | cell c =>
      cases eg : (SV.cell c).dget S k with
      | none => simp only [dgX, eg] at e; cases e
      | some o2 => simp only [dgX, eg, Option.bind_some] at e; exact gen eg e
    | node n xs =>
      dsimp only [dgX] at e
      cases qa with
      | @node a _ vs _ Fx ea f pa qs =>
        have hl := f.1
        have key : ∀ oj, nidx n k = some oj → ∃ ov, DGet H a y ov ∧ (oj = none → ov = none) ∧ ∀ j, oj = some j → ov = vs[j]? := fun oj hj => by
          cases n with
          | lst => cases hj
          | ins => cases hj
          | dK ks =>
            have hj : (k.key).map (fun k => idxK k ks) = some oj := hj
            cases ek : k.key with
            | none => rw [ek] at hj; cases hj
            | some j =>
              rw [ek] at hj; cases hj
              have ey := key_rp rk ek
              subst ey
              obtain ⟨l1, l2⟩ := idx_val (k := j) (ks := ks) (vs := vs) hl
              exact ⟨_, .inl ⟨_, _, .inl ea, rfl, rfl⟩, l1, l2⟩
          | dT ks =>
            cases k <;> try cases hj
            rename_i ds
            have hj : (keysD ds).map (fun k => idxK k ks) = some oj := hj
            cases ek : keysD ds with
            | none => rw [ek] at hj; cases hj
            | some j =>
              rw [ek] at hj; cases hj
              cases rk with
              | tup sq rr =>
                have ew := keys_rps rr ek
                subst ew
                obtain ⟨l1, l2⟩ := idx_val (k := j) (ks := ks) (vs := vs) hl
                exact ⟨_, .inr ⟨_, _, _, .inl ea, rfl, sq, rfl⟩, l1, l2⟩
        cases ej : nidx n k with
        | none => rw [ej] at e; cases e
        | some oj =>
          rw [ej, Option.bind_some] at e
          obtain ⟨ov, dg, k1, k2⟩ := key oj ej
          refine ⟨a, ov, rfl, dg, ?_⟩
          cases oj with
          | none => cases e; exact .inl ⟨rfl, k1 rfl⟩
          | some j =>
            dsimp only at e
            cases exj : xs[j]? with
            | none => rw [exj] at e; cases e
            | some xj =>
              rw [exj, Option.bind_some] at e
              obtain ⟨u, E1, Ei, E2, gu, eE, qu, _⟩ := RSs.at qs exj
              have hov := (k2 j rfl).trans gu
              subst hov
              cases xj with
              | dat d => cases e; cases qu with | dat qu => exact .inr ⟨_, u, rfl, rfl, RS.dat qu⟩
              | cell c => cases e; cases qu with | cell qu => exact .inr ⟨_, _, rfl, rfl, RS.cell qu⟩
              | node m ys =>
                cases ro with
                | val z => cases e
                | bor i0 p =>
                  cases e
                  obtain ⟨rfl, v0, e0, hp, hat⟩ := rx
                  have hat0 := hat _ (show S.sub i0 p = some (.node n xs) from ex)
                  exact .inr ⟨_, u, rfl, rfl, rfl, v0, e0, fun z => by simp at z, fun z hz => hat0.snoc ea f gu⟩
def rIxDict : R2 := fun x y H Q => ∃ a v, x = .ref a ∧ DGet H a y (some v) ∧ Q v H
theorem og_ixD : OpG K rIxDict gIxD := by
  intro S σ H Φ A F G x y ra rb T U st rx ry nd rz S' e Q q
  unfold gIxD at e
  cases ek : rb.peek S with
  | none => rw [ek] at e; cases e
  | some k =>
    rw [ek, Option.bind_some] at e
    cases eg : dgetR ra k S with
    | none => rw [eg] at e; cases e
    | some o =>
      rw [eg, Option.bind_some] at e
      obtain ⟨a, ov, rfl, dg, cs⟩ := dgetR_ok st rx (ry.rp st ek) eg
      rcases cs with ⟨rfl, rfl⟩ | ⟨r, w, rfl, rfl, rv⟩
      · cases e
      · cases e
        exact ⟨a, w, rfl, dg, q w H Φ A [] F G stay2 st rv (by simpa using st.nd) .refl⟩
end
theorem ix_dict {X : Cx} (hu : X.A.units + 1 < cLine) : IxR X rIxDict := by
  rintro value slice pins s σ H x y v u Q I rx ry ⟨a, w, rfl, g, q⟩ hs
  cases rx
  exact tail_any (dict_typeIs I g) PySem.F.slot_dict_getitem.lookup (d_getItem hu I g ry fun w' s3 I3 rw' => ⟨w, H, I3, rw', q⟩) hs
def rIxP (K : PySem.W.Frag) : R2 := fun x y H Q => rIx K x y H Q ∨ rIxDict x y H Q
def gIx : G2 := fun ra rb S => (gIxS ra rb S).orElse fun _ => gIxD ra rb S
section
variable {X : Cx} {W : WX} {a b c e : Expr} {pos : Pos} {ta tb tc te : TE} {fa fb fc fe : FE}
theorem de_ix (hu : X.A.units + 1 < cLine) (ha : DE X W a ta fa) (hb : DE X W b tb fb) (hs : PlainIx b := by intro _ _; rfl) : DE X W (.Subscript a b pos) (tOp (rIxP X.K) ta tb) (fBin gIx fa fb) :=
  ⟨pe_ix (ix_seq.or (ix_dict hu)) ha.pe hb.pe hs, ev_bin (og_ixS.or og_ixD) ha.ev hb.ev⟩
end

/-! ### x[a:b] -/
/-- the end of a slice: left out, or an int -/
inductive DO (X : Cx) (W : WX) : Option Expr → TO → Option FE → Prop where
  | non : DO X W none tNoPart none
  | som {e : Expr} {te : TE} {fe : FE} (h : DE X W e te fe) : DO X W (some e) (tPart te) (some fe)
def fPart : Option FE → Sto → Option (Out (Option Int))
  | none => fun S => some (.ok none S)
  | some fe => bindE fe fun r S => ((r.peek S).bind intOf).map fun i => .ok (some i) S
def cutD {α : Type} (xs : List α) (lo hi : Option Int) : List α := (xs.drop (HT.sIx xs.length 0 lo)).take (HT.sIx xs.length xs.length hi - HT.sIx xs.length 0 lo)
theorem cut_rps {K : PySem.W.Frag} {H : Hp} {vs : List V} {ds : List D} (h : Rps K H vs ds) (lo hi : Option Int) : Rps K H (cutV vs lo hi) (cutD ds lo hi) := by
  unfold cutV cutD
  rw [h.length]
  exact (h.drop _).take _
/-- the part of a list (a new one), a tuple, a text -/
def gSl (ra : R) (lo hi : Option Int) (S : Sto) : Option (R × Sto) := match ra.its S with
  | some (false, ds) => some (.val (.own ((cutD ds lo hi).map SV.dat)), S)
  | some (true, ds) => some (.d (.tup (cutD ds lo hi)), S)
  | none => match ra.sv S with
    | some (.dat (.str x)) => if x.length ≤ 1000000 then some (.d (.str (L2.cutS x lo hi)), S) else none
    | _ => none
def fSl (fa : FE) (lo hi : Option FE) : FE := bindE fa fun ra => bindE (fPart lo) fun l => bindE (fPart hi) fun h S => (gSl ra l h S).map fun z => .ok z.1 z.2
end L3

namespace L3
open PySem PySem.Spec PyProof.Rows L2

/-! ### slices -/
section
variable {X : Cx} {W : WX} {a : Expr} {lo hi : Option Expr} {pos p2 : Pos} {ta : TE} {fa : FE} {tl th : TO} {fl fh : Option FE}
def OEV (K : PySem.W.Frag) (W : WX) (t : TO) (f : Sto → Option (Out (Option Int))) : Prop := ∀ S σ H Φ A F G, Stands K S σ H Φ A F G → ∀ out, f S = some out → ∀ Q : Option Int → Hp → Prop,
  (match out with
    | .ok o S' => ∀ H' Φ' A' F' G', Step F G H Φ A F' G' H' Φ' A' → Stands K S' σ H' Φ' A' F' G' → Frz S S' → Q o H'
    | .exc e S' => XP K W S σ H Φ A F G e S') → t σ H Q
theorem ev_part {K : PySem.W.Frag} {te : TE} {fe : FE} (h : EV K W te fe) : OEV K W (tPart te) (fPart (some fe)) := fun S σ H Φ A F G st out ho Q q => by
  refine run1 (t := te) h st ho (fun e S' eo => by subst eo; exact q) fun r S1 v H1 Φ1 A1 T F1 G1 sp st1 rv nd fz h1 => ?_
  cases ep : r.peek S1 with
  | none => rw [ep] at h1; cases h1
  | some d =>
    rw [ep] at h1
    have h1 : (intOf d).map (fun i => Out.ok (some i) S1) = some out := h1
    cases ei : intOf d with
    | none => rw [ei] at h1; cases h1
    | some i =>
      rw [ei] at h1; cases h1
      cases intOf_some ei
      have hv : v = .int i := by cases rv.rp st1 ep; rfl
      exact ⟨i, hv, q H1 Φ1 A1 F1 G1 sp.drop st1 fz⟩
theorem DO.pe {e : Option Expr} {t : TO} {f : Option FE} (h : DO X W e t f) : PO X e t := by
  cases h with
  | non => exact po_none
  | som h => exact po_some h.pe
theorem DO.ev {e : Option Expr} {t : TO} {f : Option FE} (h : DO X W e t f) : OEV X.K W t (fPart f) := by
  cases h with
  | non => exact fun S σ H Φ A F G st out ho Q q => by cases ho; exact q H Φ A F G .refl st .refl
  | som h => exact ev_part h.ev
def rSlP (K : PySem.W.Frag) : V → Option Int → Option Int → Hp → VK → Prop := fun x lo hi H Q => rSlL K x lo hi H Q ∨ (rSlA K x lo hi H Q ∨ ∃ z, x = .str z ∧ z.length ≤ sizeLine ∧ Q (.str (L2.cutS z lo hi)) H)
theorem slR_P : SlR X (rSlP X.K) := sl_list.or (sl_tupA.or fun pins s σ H x v vl vu lo hi sl Q I rx hs pl pu ⟨z, hx, hz, q⟩ => sl_str pins s σ H x v vl vu lo hi sl Q I rx hs pl pu ⟨z, hx, hz, q⟩)
theorem sIx_bd (n d : Nat) (hd : d ≤ n) (o : Option Int) : HT.sIx n d o ≤ n := HT.sIx_le n d hd o
theorem cut_all {α : Type} {ds : List α} {lo hi : Option Int} (h : HT.sIx ds.length 0 lo = 0 ∧ HT.sIx ds.length ds.length hi = ds.length) : cutD ds lo hi = ds := by
  unfold cutD
  rw [h.1, h.2, List.drop_zero, Nat.sub_zero, List.take_length]
theorem ev_sl {K : PySem.W.Frag} (ha : EV K W ta fa) (hl : OEV K W tl (fPart fl)) (hh : OEV K W th (fPart fh)) : EV K W (tSl (rSlP K) ta tl th) (fSl fa fl fh) := fun S σ H Φ A F G st out ho Q q => by
  refine run1 (t := ta) ha st ho q.x fun ra S1 x H1 Φ1 A1 T F1 G1 sp st1 rv nd fz h1 => ?_
  -- the two ends
  unfold bindE at h1
  cases e2 : fPart fl S1 with
  | none => rw [e2] at h1; cases h1
  | some o2 =>
    rw [e2] at h1
    cases o2 with
    | exc ex S2 => cases h1; exact hl S1 σ H1 Φ1 A1 F1 G1 st1 _ e2 _ ((q.x ex S2 rfl).at sp fz)
    | ok l S2 =>
      refine hl S1 σ H1 Φ1 A1 F1 G1 st1 _ e2 _ fun H2 Φ2 A2 F2 G2 sp2 st2 fz2 => ?_
      dsimp only at h1
      have rv2 := RV.step st1 rv nd sp2 fz2
      have nd2 : (T ++ (F2 ++ G2)).Nodup := sp2.apart (fun b hb => (rv.there b hb).1) nd st2.nd
      have s02 : Step F G H Φ A (T ++ F2) G2 H2 Φ2 A2 := Step.trans (T1 := []) sp sp2
      cases e3 : fPart fh S2 with
      | none => rw [e3] at h1; cases h1
      | some o3 =>
        rw [e3] at h1
        cases o3 with
        | exc ex S3 => cases h1; exact hh S2 σ H2 Φ2 A2 F2 G2 st2 _ e3 _ ((q.x ex S3 rfl).at s02 (fz.trans fz2))
        | ok u S3 =>
          refine hh S2 σ H2 Φ2 A2 F2 G2 st2 _ e3 _ fun H3 Φ3 A3 F3 G3 sp3 st3 fz3 => ?_
          dsimp only at h1
          have rv3 := RV.step st2 rv2 nd2 sp3 fz3
          have nd3 : (T ++ (F3 ++ G3)).Nodup := sp3.apart (fun b hb => (rv2.there b hb).1) nd2 st3.nd
          have s03 : Step F G H Φ A (T ++ F3) G3 H3 Φ3 A3 := Step.trans (T1 := []) s02 sp3
          have f03 := (fz.trans fz2).trans fz3
          cases eg : gSl ra l u S3 with
          | none => rw [eg] at h1; cases h1
          | some z =>
            obtain ⟨rz, S4⟩ := z
            rw [eg] at h1; cases h1
            unfold gSl at eg
            cases ei : ra.its S3 with
            | some td =>
              obtain ⟨t, ds⟩ := td
              rw [ei] at eg
              obtain ⟨Φ4, a, vs, rfl, sq, rr, sp4, st4⟩ := its_ok st3 rv3 nd3 ei
              have s04 : Step F G H Φ A F3 G3 H3 Φ4 A3 := s03.trans0 sp4
              have fin := cut_rps rr l u
              cases t with
              | false =>
                cases eg
                refine .inl ⟨a, vs, rfl, sq, fun p hp => ?_⟩
                obtain ⟨n1, n2, n3, n4⟩ := new_list st4 (rss_dat (H := H3) (A := A3) fin) (by simpa using st4.nd) hp
                exact q (.ref p) _ _ _ [p] F3 G3 (s04.trans0 n1) n2 n3 n4 f03
              | true =>
                cases eg
                refine .inr (.inl ⟨a, vs, rfl, sq, fun hw => ?_, fun hw p hp => ?_⟩)
                · rw [rr.length] at hw
                  rw [show cutD ds l u = ds from cut_all hw] at q
                  have d1 := rv3.dat st3 (its_tup ei)
                  exact q _ H3 Φ3 A3 [] F3 G3 s03.drop st3 (RS.dat d1) (by simpa using st3.nd) f03
                · obtain ⟨n1, n2, n3⟩ := new_frz (o := .tup (cutV vs l u)) st4 hp
                  exact q (.ref p) _ _ _ [] F3 G3 (s04.trans0 n1) n2 (RS.dat (.tup upd_same (fin.mono n3))) (by simpa using n2.nd) f03
            | none =>
              rw [ei] at eg
              dsimp only at eg
              cases ex : ra.sv S3 with
              | none => rw [ex] at eg; cases eg
              | some y =>
                rw [ex] at eg
                cases y with
                | node n xs => cases eg
                | cell c => cases eg
                | dat d =>
                  cases d <;> try cases eg
                  rename_i z
                  have eg : (if z.length ≤ 1000000 then some (R.d (.str (L2.cutS z l u)), S3) else none) = some (rz, S4) := eg
                  by_cases hz : z.length ≤ 1000000
                  · rw [if_pos hz] at eg; cases eg
                    have hx : x = .str z := by cases rv3.dat st3 ex; rfl
                    exact .inr (.inr ⟨z, hx, k1000000 hz, q _ H3 Φ3 A3 [] F3 G3 s03.drop st3 (RS.dat (.str _)) (by simpa using st3.nd) f03⟩)
                  · rw [if_neg hz] at eg; cases eg
theorem de_sl (ha : DE X W a ta fa) (hl : DO X W lo tl fl) (hh : DO X W hi th fh) : DE X W (.Subscript a (.Slice lo hi none p2) pos) (tSl (rSlP X.K) ta tl th) (fSl fa fl fh) := ⟨pe_slice slR_P ha.pe hl.pe hh.pe, ev_sl ha.ev hl.ev hh.ev⟩
end

/-! ### built-ins called by their names -/
abbrev GB := List R → Sto → Option (R × Sto)
def BOk (K : PySem.W.Frag) (r : List V → Hp → VK → Prop) (g : GB) : Prop := ∀ S σ H Φ A F G vs rs T, Stands K S σ H Φ A F G → RVs K Φ H A S σ vs rs T → (T ++ (F ++ G)).Nodup → ∀ rz S', g rs S = some (rz, S') →
  ∀ Q, (∀ v H' Φ' A' V F' G', Step (T ++ F) G H Φ A (V ++ F') G' H' Φ' A' → Stands K S' σ H' Φ' A' F' G' → RV K Φ' H' A' S' σ v rz V → (V ++ (F' ++ G')).Nodup → Frz S S' → Q v H') → r vs H Q
theorem BOk.or {K : PySem.W.Frag} {r r' : List V → Hp → VK → Prop} {g g' : GB} (h : BOk K r g) (h' : BOk K r' g') : BOk K (fun xs H Q => r xs H Q ∨ r' xs H Q) (fun rs S => (g rs S).orElse fun _ => g' rs S) := by
  intro S σ H Φ A F G vs rs T st rv nd rz S' e Q q
  have e : (g rs S).orElse (fun _ => g' rs S) = some (rz, S') := e
  cases e1 : g rs S with
  | some z =>
    rw [e1] at e
    have e : some z = some (rz, S') := e
    cases e
    exact .inl (h S σ H Φ A F G vs rs T st rv nd rz S' e1 Q q)
  | none =>
    rw [e1] at e
    exact .inr (h' S σ H Φ A F G vs rs T st rv nd rz S' e Q q)
def fB (g : GB) (fa : FA) : FE := bindE fa fun rs S => (g rs S).map fun z => .ok z.1 z.2
section
variable {X : Cx} {W : WX} {e : Expr} {es : List Expr} {x : Str} {p pos : Pos} {t : TA} {fa : FA} {id : String} {r : List V → Hp → VK → Prop} {g : GB}
theorem ev_B {K : PySem.W.Frag} (hb : BOk K r g) (ha : EVA K W t fa) : EV K W (tCB r t) (fB g fa) := fun S σ H Φ A F G st out ho Q q => by
  refine runA (t := t) ha st ho q.x fun rs S1 vs H1 Φ1 A1 T F1 G1 sp st1 rv nd fz h1 => ?_
  cases eg : g rs S1 with
  | none => rw [eg] at h1; cases h1
  | some z =>
    obtain ⟨rz, S2⟩ := z
    rw [eg] at h1; cases h1
    exact hb S1 σ H1 Φ1 A1 F1 G1 vs rs T st1 rv nd rz S2 eg Q fun v H' Φ' A' V F' G' s2 st2 rv2 nd2 f2 => q v H' Φ' A' V F' G' (Step.trans (T := []) (T1 := V) (F1 := T ++ F1) sp s2) st2 rv2 nd2 (fz.trans f2)
theorem de_B (hc : CallR X (.builtin id) r) (hb : BOk X.K r g) (hv : bootBuiltins x = some (.builtin id)) (hm : X.mg x = none) (ha : DA X W (e :: es) t fa) (hg : Gl X x := by rfl) (hn : x ≠ "__name__" := by decide) (hdb : (x == ("__debug__" : Str)) = false := by decide)
    (he : starEach (e :: es) X.env = (false, eval e X.env) :: starEach es X.env := by rfl) (hpl : (backTo pos (starEach es X.env)).any (·.1) = false := by rfl) : DE X W (.Call (.Name x p) (e :: es) [] pos) (tCB r t) (fB g fa) := ⟨pe_callB hc hg hm hv ha.pe hn hdb he hpl, ev_B hb ha.ev⟩
theorem de_BT {T : String} (hc : CallR X (.type T) r) (hb : BOk X.K r g) (hv : bootBuiltins x = some (.type T)) (hm : X.mg x = none) (ha : DA X W (e :: es) t fa) (hg : Gl X x := by rfl) (hn : x ≠ "__name__" := by decide) (hdb : (x == ("__debug__" : Str)) = false := by decide)
    (he : starEach (e :: es) X.env = (false, eval e X.env) :: starEach es X.env := by rfl) (hpl : (backTo pos (starEach es X.env)).any (·.1) = false := by rfl) : DE X W (.Call (.Name x p) (e :: es) [] pos) (tCB r t) (fB g fa) := ⟨pe_callTy hc hg hm hv ha.pe hn hdb he hpl, ev_B hb ha.ev⟩
end
/-- of data, no heap in sight -/
def peeksR : List R → Sto → Option (List D)
  | [], _ => some []
  | r :: rs, S => (r.peek S).bind fun d => (peeksR rs S).map fun ds => d :: ds
def gD (g : List D → Option D) : GB := fun rs S => (peeksR rs S).bind fun ds => (g ds).map fun d => (.d d, S)
theorem peeksR_ok {K : PySem.W.Frag} {S : Sto} {σ : Sl} {H Φ : Hp} {A F G : List Addr} (st : Stands K S σ H Φ A F G) : ∀ {vs : List V} {rs : List R} {T : List Addr} {ds : List D}, RVs K Φ H A S σ vs rs T → peeksR rs S = some ds → Rps K H vs ds
  | _, _, _, _, .nil, e => by rw [peeksR] at e; cases e; exact .nil
  | _, _, _, ds, .cons (r := r) (rs := rs) q qs, e => by
    rw [peeksR] at e
    cases e1 : r.peek S with
    | none => rw [e1] at e; cases e
    | some d =>
      cases e2 : peeksR rs S with
      | none => rw [e1, e2] at e; cases e
      | some es => rw [e1, e2] at e; cases e; exact .cons (q.rp st e1) (peeksR_ok st qs e2)
theorem bok_D {K : PySem.W.Frag} {r : List V → Hp → VK → Prop} {g : List D → Option D} (h : ∀ H vs ds z, Rps K H vs ds → g ds = some z → ∀ Q, (∀ v, (∀ H', Rp K H' v z) → Q v H) → r vs H Q) : BOk K r (gD g) := by
  intro S σ H Φ A F G vs rs T st rv nd rz S' e Q q
  unfold gD at e
  cases e1 : peeksR rs S with
  | none => rw [e1] at e; cases e
  | some ds =>
    rw [e1] at e
    have e : (g ds).map (fun d => (R.d d, S)) = some (rz, S') := e
    cases e2 : g ds with
    | none => rw [e2] at e; cases e
    | some z =>
      rw [e2] at e; cases e
      exact h H vs ds z (peeksR_ok st rv e1) e2 Q fun v hv => q v H Φ A [] F G ⟨fun _ _ e _ => e, fun _ _ e => e, fun _ _ e => .inl e, fun b hb => .inl (by simp only [List.nil_append] at hb; simp [hb]), fun _ h => .inl h, fun _ h => h, Pfx.refl⟩ st (RS.dat (hv _)) (by simpa using st.nd) .refl
/-! len -/
def lenD : List D → Option D
  | [.lst ds] => some (.int ds.length)
  | [.tup ds] => some (.int ds.length)
  | [.kt ds] => some (.int ds.length)
  | [.str x] => if x.length ≤ 1000000 then some (.int x.length) else none
  | _ => none
theorem bok_len {K : PySem.W.Frag} : BOk K (fun xs H Q => ∃ x n, xs = [x] ∧ LenV K x H n ∧ Q (.int n) H) (gD lenD) := bok_D fun H vs ds z rr e Q q => by
  unfold lenD at e
  split at e
  · cases e
    cases rr with
    | cons r rs =>
      cases rs
      cases r with
      | lst rd r2 => rw [← r2.length] at q; exact ⟨_, _, rfl, .inl ⟨_, .inl (.inl rd), rfl⟩, q _ fun H' => .int _⟩
  · cases e
    cases rr with
    | cons r rs =>
      cases rs
      cases r with
      | tup rd r2 => rw [← r2.length] at q; exact ⟨_, _, rfl, .inr ⟨_, .inl (.inl rd), rfl⟩, q _ fun H' => .int _⟩
  · cases e
    cases rr with
    | cons r rs =>
      cases rs
      cases r with
      | kt rd r2 => rw [← r2.length] at q; exact ⟨_, _, rfl, .inr ⟨_, rd, rfl⟩, q _ fun H' => .int _⟩
  · split at e
    · rename_i hl
      cases e
      cases rr with
      | cons r rs =>
        cases rs
        cases r with
        | str y => exact ⟨_, _, rfl, ⟨k1000000 hl, rfl⟩, q _ fun H' => .int _⟩
    · cases e
  · cases e
/-! max, min of two ints -/
def max2D : List D → Option D
  | [.int i, .int j] => some (.int (if j > i then j else i))
  | _ => none
def min2D : List D → Option D
  | [.int i, .int j] => some (.int (if j < i then j else i))
  | _ => none
theorem bok_max2 {K : PySem.W.Frag} : BOk K (fun xs H Q => ∃ i j, xs = [.int i, .int j] ∧ Q (.int (if j > i then j else i)) H) (gD max2D) := bok_D fun H vs ds z rr e Q q => by
  unfold max2D at e
  split at e
  · cases e
    cases rr with
    | cons r rs => cases rs with
      | cons r' rs => cases rs; cases r; cases r'; exact ⟨_, _, rfl, q _ fun H' => .int _⟩
  · cases e
theorem bok_min2 {K : PySem.W.Frag} : BOk K (fun xs H Q => ∃ i j, xs = [.int i, .int j] ∧ Q (.int (if j < i then j else i)) H) (gD min2D) := bok_D fun H vs ds z rr e Q q => by
  unfold min2D at e
  split at e
  · cases e
    cases rr with
    | cons r rs => cases rs with
      | cons r' rs => cases rs; cases r; cases r'; exact ⟨_, _, rfl, q _ fun H' => .int _⟩
  · cases e
/-! sum -/
def intsD : List D → Option (List Int)
  | [] => some []
  | .int i :: r => (intsD r).map fun is => i :: is
  | _ :: _ => none
theorem intsD_eq : ∀ {ds : List D} {is : List Int}, intsD ds = some is → ds = is.map D.int
  | [], is, e => by rw [intsD] at e; cases e; rfl
  | .int i :: r, is, e => by
    rw [intsD] at e
    cases e1 : intsD r with
    | none => rw [e1] at e; cases e
    | some js => rw [e1] at e; cases e; rw [intsD_eq e1]; rfl
  | .non :: _, _, e => by cases e
  | .bl _ :: _, _, e => by cases e
  | .str _ :: _, _, e => by cases e
  | .lst _ :: _, _, e => by cases e
  | .tup _ :: _, _, e => by cases e
  | .dK _ _ :: _, _, e => by cases e
  | .dT _ _ :: _, _, e => by cases e
  | .fn _ :: _, _, e => by cases e
theorem rps_ints {K : PySem.W.Frag} {H : Hp} : ∀ {is : List Int} {vs : List V}, Rps K H vs (is.map D.int) → vs = is.map V.int
  | [], _, .nil => rfl
  | i :: is, _, .cons q r => by cases q; rw [rps_ints r]; rfl
def sumD : List D → Option D
  | [.lst ds] => (intsD ds).map fun is => .int is.sum
  | _ => none
theorem bok_sum {K : PySem.W.Frag} : BOk K (rSum K) (gD sumD) := bok_D fun H vs ds z rr e Q q => by
  unfold sumD at e
  split at e
  · rename_i es
    cases e1 : intsD es with
    | none => rw [e1] at e; cases e
    | some is =>
      rw [e1] at e; cases e
      cases rr with
      | cons r rs =>
        cases rs
        cases r with
        | lst rd r2 =>
          rw [intsD_eq e1] at r2
          exact ⟨_, is, rfl, (by rw [← rps_ints r2]; exact .inl (.inl rd)), q _ fun H' => .int _⟩
  · cases e
/-! str, repr -/
theorem showable_depth : True := trivial
def reprD : List D → Option D
  | [d] => match d.py with
    | some p => if p.showable = true ∧ p.hasDict = false ∧ p.depth ≤ 64 ∧ p.shown.length ≤ 16000000 then some (.str p.shown) else none
    | none => none
  | _ => none
def rRepr (K : PySem.W.Frag) : List V → Hp → VK → Prop := fun vs H Q => ∃ x p, vs = [x] ∧ Dp K H x p ∧ p.showable = true ∧ p.hasDict = false ∧ p.depth ≤ 64 ∧ p.shown.length ≤ sizeLine ∧ Q (.str p.shown) H
theorem cr_repr {X : Cx} (gd : X.A.guards = some []) (hu : X.A.units + 65 < cLine) : CallR X (.builtin "repr") (rRepr X.K) := by
  rintro pins s σ H xs us Q I r ⟨x, p, rfl, dp, sh, nd, dh, hz, q⟩
  obtain ⟨u, rfl, ru⟩ := vals1 r
  have fin : ∀ {y : Str} {t : Tok} {s' : Shared}, Inv X pins σ H s' → y = p.shown → EP X pins σ Q (.str y t) s' := fun {y t s'} I' e => by subst e; exact ⟨.str p.shown, H, I', ⟨t, rfl⟩, q⟩
  cases dp with
  | non => cases ru; exact PySem.P.repr_of_none (fin (I.tok _) (by simp only [PyData.shown]))
  | bl b => cases ru; exact PySem.P.repr_of_bool (fin (I.tok _) (by simp only [PyData.shown]))
  | int i =>
    obtain ⟨t, rfl⟩ := ru
    have sh' : i.natAbs.log2 < 1920 := by simpa [PyData.showable] using sh
    exact PySem.P.repr_of_int sh' (fin (I.tok _) (by simp only [PyData.shown]))
  | str z =>
    obtain ⟨t, rfl⟩ := ru
    have hz' : (reprText z).length ≤ sizeLine := by simpa only [PyData.shown] using hz
    exact PySem.P.repr_of_str (fin (I.tok _) (by simp only [PyData.shown])) hz'
  | lst sq da =>
    rename_i a ys ds
    cases ru
    obtain ⟨as, rd⟩ := Dp.reads I (.list ds) (.ref a) (.ref a) (.lst sq da) rfl
    exact repr_of_reads' rd sh (fun e => by rw [nd] at e; cases e) gd (by omega) (fun _ _ e => e) (fun h' u tk hk => fin (I.kept hk) rfl) hz
  | tup sq da =>
    rename_i a ys ds
    cases ru
    obtain ⟨as, rd⟩ := Dp.reads I (.tuple ds) (.ref a) (.ref a) (.tup sq da) rfl
    exact repr_of_reads' rd sh (fun e => by rw [nd] at e; cases e) gd (by omega) (fun _ _ e => e) (fun h' u tk hk => fin (I.kept hk) rfl) hz
theorem bok_repr {K : PySem.W.Frag} : BOk K (rRepr K) (gD reprD) := bok_D fun H vs ds z rr e Q q => by
  unfold reprD at e
  split at e
  · rename_i d
    cases ep : d.py with
    | none => rw [ep] at e; cases e
    | some p =>
      rw [ep] at e
      dsimp only at e
      split at e
      · rename_i h
        cases e
        cases rr with
        | cons r rs => cases rs; exact ⟨_, p, rfl, r.dp ep, h.1, h.2.1, h.2.2.1, Nat.le_trans h.2.2.2 (by rw [sizeLine_eq]; decide), q _ fun H' => .str _⟩
      · cases e
  · cases e
/-! tuple(x), list(x): of a list or a tuple -/
def gTupOf : GB := fun rs S => match rs with
  | [r] => match r.its S with
    | some (_, ds) => some (.d (.tup ds), S)
    | none => none
  | _ => none
def gLstOf : GB := fun rs S => match rs with
  | [r] => match r.its S with
    | some (_, ds) => some (.val (.own (ds.map SV.dat)), S)
    | none => none
  | _ => none
theorem rvs_one {K : PySem.W.Frag} {S : Sto} {σ : Sl} {H Φ : Hp} {A : List Addr} {vs : List V} {r : R} {T : List Addr} (h : RVs K Φ H A S σ vs [r] T) : ∃ v, vs = [v] ∧ RV K Φ H A S σ v r T := by
  cases h with
  | cons q t => cases t; exact ⟨_, rfl, by rw [List.append_nil]; exact q⟩
theorem bok_tupOf {K : PySem.W.Frag} : BOk K (fun xs H Q => ∃ p ys, xs = [.ref p] ∧ ((SqL K H p ys ∧ ∀ l, H l = none → Q (.ref l) (upd H l (.tup ys))) ∨ (SqT K H p ys ∧ Q (.ref p) H))) gTupOf := by
  intro S σ H Φ A F G vs rs T st rv nd rz S' e Q q
  unfold gTupOf at e
  split at e
  · rename_i r
    cases ei : r.its S with
    | none => rw [ei] at e; cases e
    | some td =>
      obtain ⟨t, ds⟩ := td
      rw [ei] at e; cases e
      obtain ⟨v, rfl, rv1⟩ := rvs_one rv
      obtain ⟨Φ', a, ws, rfl, sq, rr, sp, st'⟩ := its_ok st rv1 nd ei
      refine ⟨a, ws, rfl, ?_⟩
      cases t with
      | false => exact .inl ⟨sq, fun l hl => end_tup q sp st' rr hl⟩
      | true =>
        have d1 := rv1.dat st (its_tup ei)
        exact .inr ⟨sq, q _ H Φ A [] F G ⟨fun _ _ e _ => e, fun _ _ e => e, fun _ _ e => .inl e, fun b hb => .inl (by simp only [List.nil_append] at hb; simp [hb]), fun _ h => .inl h, fun _ h => h, Pfx.refl⟩ st (RS.dat d1) (by simpa using st.nd) .refl⟩
  · cases e
theorem bok_lstOf {K : PySem.W.Frag} : BOk K (fun xs H Q => ∃ p ys, xs = [.ref p] ∧ (SqL K H p ys ∨ SqT K H p ys) ∧ ∀ l, H l = none → Q (.ref l) (upd H l (.lst ys))) gLstOf := by
  intro S σ H Φ A F G vs rs T st rv nd rz S' e Q q
  unfold gLstOf at e
  split at e
  · rename_i r
    cases ei : r.its S with
    | none => rw [ei] at e; cases e
    | some td =>
      obtain ⟨t, ds⟩ := td
      rw [ei] at e; cases e
      obtain ⟨v, rfl, rv1⟩ := rvs_one rv
      obtain ⟨Φ', a, ws, rfl, sq, rr, sp, st'⟩ := its_ok st rv1 nd ei
      refine ⟨a, ws, rfl, ?_, fun l hl => end_list q sp st' rr hl⟩
      cases t with
      | false => exact .inl (sq)
      | true => exact .inr sq
  · cases e
end L3

namespace L3
open PySem PySem.Spec PyProof.Rows L2

/-! ### what is walked: a list, a tuple, a range -/
section
variable {X : Cx} {W : WX} {tg e : Expr} {es : List Expr} {p pos : Pos} {te : TE} {t : TA} {fe : FE} {fa : FA}
theorem stay0 {F G A : List Addr} {H Φ : Hp} : Step F G H Φ A F G H Φ A := .refl
theorem walk_L {K : PySem.W.Frag} {Φ0 : Hp} {a : Addr} {vs : List V} {ds : List D} (sq : SqL K Φ0 a vs) (rr : Rps K Φ0 vs ds) : Walk K Φ0 (Itl K a) ds := fun S σ H Φ A F G st le i => by
  have s1 : SqL K H a vs := sqL_mono st.le (sqL_mono le sq)
  refine ⟨fun d ed => ?_, fun ei => ⟨vs, s1, by rw [rr.length, ei]; exact Nat.le_refl _⟩⟩
  obtain ⟨v, ev, rv⟩ := rr.get' ed
  refine ⟨⟨vs, v, s1, ev⟩, fun x H' hy => ?_⟩
  obtain ⟨rfl, hx⟩ := hy
  have ex := hx vs (s1)
  rw [ev] at ex; cases ex
  exact ⟨Φ, .refl, st, rv.mono le⟩
theorem walk_T {K : PySem.W.Frag} {Φ0 : Hp} {a : Addr} {vs : List V} {ds : List D} (sq : SqT K Φ0 a vs) (rr : Rps K Φ0 vs ds) : Walk K Φ0 (Itt K a) ds := fun S σ H Φ A F G st le i => by
  have s1 : SqT K H a vs := sqT_mono st.le (sqT_mono le sq)
  refine ⟨fun d ed => ?_, fun ei => ⟨vs, s1, by rw [rr.length, ei]; exact Nat.le_refl _⟩⟩
  obtain ⟨v, ev, rv⟩ := rr.get' ed
  refine ⟨⟨vs, v, s1, ev⟩, fun x H' hy => ?_⟩
  obtain ⟨rfl, hx⟩ := hy
  have ex := hx vs s1
  rw [ev] at ex; cases ex
  exact ⟨Φ, .refl, st, rv.mono le⟩
/-- the signs of a text -/
def signs (x : Str) : List D := x.cps.toList.map fun c => .str ⟨#[c]⟩
theorem walk_S {K : PySem.W.Frag} {Φ0 : Hp} {x : Str} : Walk K Φ0 (Its x) (signs x) := fun S σ H Φ A F G st le i => by
  have hl : (signs x).length = x.cps.size := by unfold signs; simp
  refine ⟨fun d ed => ?_, fun ei => by rw [hl] at ei; exact Nat.le_of_eq ei.symm⟩
  have hi : i < x.cps.size := by rw [← hl]; exact (List.getElem?_eq_some_iff.mp ed).1
  refine ⟨hi, fun y H' hy => ?_⟩
  obtain ⟨rfl, c, ec, rfl⟩ := hy
  have ed2 : d = .str ⟨#[c]⟩ := by
    unfold signs at ed
    rw [List.getElem?_map] at ed
    have e3 : x.cps.toList[i]? = some c := by simpa using ec
    rw [e3] at ed
    cases ed; rfl
  subst ed2
  exact ⟨Φ, .refl, st, .str _⟩
/-- a list, a tuple, a text: walked -/
def wAny (K : PySem.W.Frag) (te : TE) : TI := fun σ H R => te σ H fun x H1 => (∃ a xs, x = .ref a ∧ SqL K H1 a xs ∧ R (Itl K a) H1) ∨ (∃ a xs, x = .ref a ∧ SqT K H1 a xs ∧ R (Itt K a) H1) ∨ ∃ z, x = .str z ∧ R (Its z) H1
theorem pi_any (h : PE X e te) : PI X tg e (wAny X.K te) := ⟨fun pins s σ H R I hw => thn (h.run pins s σ H _ I hw) fun v s1 ⟨x, H1, I1, r1, q1⟩ => by
  rcases q1 with ⟨a, xs, ex, sq, q⟩ | ⟨a, xs, ex, sq, q⟩ | ⟨z, ex, q⟩
  · subst ex
    obtain rfl : v = .ref a := r1
    obtain ⟨its, _, pl, _⟩ := I1.list sq
    exact wpAny_pyIter_list pl.isList (pi_one (tk := s1.toks) I1 _ (turn_list a _) ⟨_, Heap.get?_push_size _ rfl, rfl, rfl⟩ q)
  · subst ex
    obtain rfl : v = .ref a := r1
    obtain ⟨its, _, pl, _⟩ := I1.tuple sq
    exact wpAny_pyIter_tuple (show s1.heap.IsTuple a its.toArray from pl) (pi_one (tk := s1.toks) I1 _ (turn_tuple a _) ⟨_, Heap.get?_push_size _ rfl, rfl, rfl⟩ q)
  · subst ex
    obtain ⟨t, rfl⟩ := r1
    by_cases ha : z.cps.all (· < 128) = true
    · exact wpAny_pyIter_ascii ha (pi_one (tk := s1.toks) I1 _ (turn_str _ z t "str_ascii_iterator" (.inl rfl)) ⟨_, Heap.get?_push_size _ rfl, rfl, rfl⟩ q)
    · exact wpAny_pyIter_wide (by simpa using ha) (pi_one (tk := s1.toks) I1 _ (turn_str _ z t "str_iterator" (.inr rfl)) ⟨_, Heap.get?_push_size _ rfl, rfl, rfl⟩ q)⟩
def fItems (fe : FE) : FI := bindE fe fun r S => match r.esc S with
  | some (.lst ds, S1) => some (.ok ds S1)
  | some (.tup ds, S1) => some (.ok ds S1)
  | some (.kt ds, S1) => some (.ok ds S1)
  | some (.str x, S1) => some (.ok (signs x) S1)
  | _ => none
theorem di_any (h : DE X W e te fe) : DI X W tg e (wAny X.K te) (fItems fe) := ⟨pi_any h.pe, fun S σ H Φ A F G st out ho R q => by
  refine run1 (t := te) h.ev st ho (fun e S' eo => by subst eo; exact q) fun r S1 v H1 Φ1 A1 T F1 G1 sp st1 rv nd fz h1 => ?_
  cases ee : r.esc S1 with
  | none => rw [ee] at h1; cases h1
  | some z =>
    obtain ⟨d, S2⟩ := z
    rw [ee] at h1
    obtain ⟨Φ2, F2, sp2, st2, rp2, fz2⟩ := esc_ok st1 rv nd ee
    cases d <;> try cases h1
    · cases rp2
      exact .inr (.inr ⟨_, rfl, q _ H1 Φ2 A1 F2 G1 (sp.trans0 sp2) st2 (fz.trans fz2) walk_S⟩)
    · cases rp2 with
      | lst sq rr => exact .inl ⟨_, _, rfl, .inl (.inl (st2.le _ _ sq)), q _ H1 Φ2 A1 F2 G1 (sp.trans0 sp2) st2 (fz.trans fz2) (walk_L (.inl (.inl sq)) rr)⟩
    · cases rp2 with
      | tup sq rr => exact .inr (.inl ⟨_, _, rfl, .inl (.inl (st2.le _ _ sq)), q _ H1 Φ2 A1 F2 G1 (sp.trans0 sp2) st2 (fz.trans fz2) (walk_T (.inl (.inl sq)) rr)⟩)
    · cases rp2 with
      | kt sq rr => exact .inr (.inl ⟨_, _, rfl, sqT_mono st2.le sq, q _ H1 Φ2 A1 F2 G1 (sp.trans0 sp2) st2 (fz.trans fz2) (walk_T sq rr)⟩)⟩
/-- range -/
def rangeL (lo : Int) (n : Nat) (c : Int) : List D := (List.range n).map fun (i : Nat) => D.int (lo + (i : Int) * c)
theorem rangeL_get {lo c : Int} {n i : Nat} {d : D} (h : (rangeL lo n c)[i]? = some d) : i < n ∧ d = .int (lo + (i : Int) * c) := by
  unfold rangeL at h
  rw [List.getElem?_map] at h
  by_cases hi : i < n
  · rw [List.getElem?_range hi] at h; cases h; exact ⟨hi, rfl⟩
  · rw [List.getElem?_eq_none (by simpa using hi)] at h; cases h
theorem walk_R {K : PySem.W.Frag} {Φ0 : Hp} {lo : Int} {n : Nat} : Walk K Φ0 (Itr lo n) (rangeL lo n 1) := fun S σ H Φ A F G st le i => by
  refine ⟨fun d ed => ?_, fun ei => by unfold rangeL at ei; simp at ei; exact Nat.le_of_eq ei.symm⟩
  obtain ⟨hi, rfl⟩ := rangeL_get ed
  refine ⟨hi, fun y H' hy => ?_⟩
  obtain ⟨rfl, rfl⟩ := hy
  refine ⟨Φ, .refl, st, ?_⟩
  rw [Int.mul_one]; exact .int _
theorem walk_RC {K : PySem.W.Frag} {Φ0 : Hp} {lo c : Int} {n : Nat} : Walk K Φ0 (Itc lo c n) (rangeL lo n c) := fun S σ H Φ A F G st le i => by
  refine ⟨fun d ed => ?_, fun ei => by unfold rangeL at ei; simp at ei; exact Nat.le_of_eq ei.symm⟩
  obtain ⟨hi, rfl⟩ := rangeL_get ed
  refine ⟨hi, fun y H' hy => ?_⟩
  obtain ⟨rfl, rfl⟩ := hy
  exact ⟨Φ, .refl, st, .int _⟩
def small62 (i : Int) : Prop := -(2 ^ 62) ≤ i ∧ i < 2 ^ 62
instance (i : Int) : Decidable (small62 i) := by unfold small62; infer_instance
def range1 : List D → Option (List D)
  | [.int j] => if small62 j then some (rangeL 0 j.toNat 1) else none
  | _ => none
def range2 : List D → Option (List D)
  | [.int i, .int j] => if small62 i ∧ small62 j then some (rangeL i (j - i).toNat 1) else none
  | _ => none
/-- the turns of a range with a step -/
def steps3 (i j c : Int) : Nat := if c = -1 then (i - j).toNat else if c = 1 then (j - i).toNat else ((j - i + 1) / 2).toNat
def range3 : List D → Option (List D)
  | [.int i, .int j, .int c] => if small62 i ∧ small62 j ∧ (c = -1 ∨ c = 1 ∨ c = 2) then some (rangeL i (steps3 i j c) c) else none
  | _ => none
def fRange (g : List D → Option (List D)) (fa : FA) : FI := bindE fa fun rs S => (peeksR rs S).bind fun ds => (g ds).map fun is => .ok is S
theorem ev_range {K : PySem.W.Frag} {g : List D → Option (List D)} {k : List V → Hp → (It → Hp → Prop) → Prop} (ha : EVA K W t fa)
    (hk : ∀ H vs ds is, Rps K H vs ds → g ds = some is → ∃ J, (∀ Φ0, Walk K Φ0 J is) ∧ ∀ R : It → Hp → Prop, R J H → k vs H R) : IEV K W (fun σ H R => t σ H fun vs H1 => k vs H1 R) (fRange g fa) := fun S σ H Φ A F G st out ho R q => by
  refine runA (t := t) ha st ho (fun e S' eo => by subst eo; exact q) fun rs S1 vs H1 Φ1 A1 T F1 G1 sp st1 rv nd fz h1 => ?_
  cases e1 : peeksR rs S1 with
  | none => rw [e1] at h1; cases h1
  | some ds =>
    rw [e1] at h1
    have h1 : (g ds).map (fun is => Out.ok is S1) = some out := h1
    cases e2 : g ds with
    | none => rw [e2] at h1; cases h1
    | some is =>
      rw [e2] at h1; cases h1
      obtain ⟨J, wk, hR⟩ := hk H1 vs ds is (peeksR_ok st1 rv e1) e2
      exact hR R (q J H1 Φ1 A1 F1 G1 sp.drop st1 fz (wk _))
theorem di_range1 {a : Expr} (hm : X.mg "range" = none) (ha : DA X W [a] t fa) (hg : Gl X "range" := by rfl) (hs : starEach [a] X.env = [(false, eval a X.env)] := by rfl) : DI X W tg (.Call (.Name "range" p) [a] [] pos) (iRng1 t) (fRange range1 fa) := ⟨pi_range1 hg hm ha.pe hs, ev_range (k := fun vs H1 R => ∃ j : Int, vs = [.int j] ∧ -(2 ^ 62) ≤ j ∧ j < 2 ^ 62 ∧ R (Itr 0 j.toNat) H1) ha.ev fun H vs ds is rr e => by
  unfold range1 at e
  split at e
  · rename_i j
    split at e
    · rename_i h
      cases e
      cases rr with
      | cons r rs => cases rs; cases r; exact ⟨Itr 0 j.toNat, fun _ => walk_R, fun R q => ⟨j, rfl, h.1, h.2, q⟩⟩
    · cases e
  · cases e⟩
theorem di_range2 {a b : Expr} (hm : X.mg "range" = none) (ha : DA X W [a, b] t fa) (hg : Gl X "range" := by rfl) (hs : starEach [a, b] X.env = [(false, eval a X.env), (false, eval b X.env)] := by rfl) (hs2 : starEach [b] X.env = [(false, eval b X.env)] := by rfl) : DI X W tg (.Call (.Name "range" p) [a, b] [] pos) (iRng2 t) (fRange range2 fa) := ⟨pi_range2 hg hm ha.pe hs hs2, ev_range (k := fun vs H1 R => ∃ i j : Int, vs = [.int i, .int j] ∧ (-(2 ^ 62) ≤ i ∧ i < 2 ^ 62 ∧ -(2 ^ 62) ≤ j ∧ j < 2 ^ 62) ∧ R (Itr i (j - i).toNat) H1) ha.ev fun H vs ds is rr e => by
  unfold range2 at e
  split at e
  · rename_i i j
    split at e
    · rename_i h
      cases e
      cases rr with
      | cons r rs => cases rs with
        | cons r' rs => cases rs; cases r; cases r'; exact ⟨Itr i (j - i).toNat, fun _ => walk_R, fun R q => ⟨i, j, rfl, ⟨h.1.1, h.1.2, h.2.1, h.2.2⟩, q⟩⟩
    · cases e
  · cases e⟩
theorem rgc_ok {i j c : Int} (h1 : small62 i) (h2 : small62 j) (hc : c = -1 ∨ c = 1 ∨ c = 2) : RgC i j c (steps3 i j c) := by
  obtain ⟨a1, a2⟩ := h1
  obtain ⟨b1, b2⟩ := h2
  rcases hc with rfl | rfl | rfl
  · exact RgC.neg a1 a2 b1 b2
  · refine ⟨by decide, by decide, small_one a1 a2 b1 b2, ?_⟩
    have e : steps3 i j 1 = (j - i).toNat := rfl
    rw [e, rangeSize_one]
    split <;> omega
  · have e : steps3 i j 2 = ((j - i + 1) / 2).toNat := rfl
    refine ⟨by decide, by decide, ?_, ?_⟩
    · unfold Builtin.Range.small Builtin.Range.rangeSize
      simp only [Builtin.Range.rangeFitsLong, Bool.and_eq_true, Bool.or_eq_true, decide_eq_true_eq, beq_iff_eq, show (2 : Int) > 0 by decide, if_true]
      split <;> omega
    · rw [e]
      unfold Builtin.Range.rangeSize
      simp only [show (2 : Int) > 0 by decide, if_true]
      split <;> omega
theorem di_range3 {a b c : Expr} (hm : X.mg "range" = none) (ha : DA X W [a, b, c] t fa) (hg : Gl X "range" := by rfl) (hs : starEach [a, b, c] X.env = (false, eval a X.env) :: starEach [b, c] X.env := by rfl) (hpl : (backTo pos (starEach [b, c] X.env)).any (·.1) = false := by rfl) : DI X W tg (.Call (.Name "range" p) [a, b, c] [] pos) (iRng3 t) (fRange range3 fa) := ⟨pi_range3 hg hm ha.pe hs hpl, ev_range (k := fun vs H1 R => ∃ (i j c : Int) (n : Nat), vs = [.int i, .int j, .int c] ∧ RgC i j c n ∧ R (Itc i c n) H1) ha.ev fun H vs ds is rr e => by
  unfold range3 at e
  split at e
  · rename_i i j c
    split at e
    · rename_i h
      cases e
      cases rr with
      | cons r rs => cases rs with
        | cons r' rs => cases rs with
          | cons r'' rs => cases rs; cases r; cases r'; cases r''; exact ⟨Itc i c (steps3 i j c), fun _ => walk_RC, fun R q => ⟨i, j, c, _, rfl, rgc_ok h.1 h.2.1 h.2.2, q⟩⟩
    · cases e
  · cases e⟩
end
end L3

namespace L3
open PySem PySem.Spec PyProof.Rows L2

/-! ### [e for target in .. if ..] -/
def wipeL (ρ : List (Option SV)) : List Nat → List (Option SV)
  | [] => ρ
  | v :: vs => (wipeL ρ vs).set v none
def Sto.wipe (S : Sto) (vs : List Nat) : Sto := { S with ρ := wipeL S.ρ vs }
section
variable {K : PySem.W.Frag} {S S' : Sto} {σ : Sl} {H Φ : Hp} {A F G : List Addr}
theorem ro_set_none : ∀ {σ : Sl} {ρ : List (Option SV)} {F : List Addr} {i : Nat}, RO K Φ H A σ ρ F → ∃ F', RO K Φ H A (σ.set i none) (ρ.set i none) F' ∧ F'.Sublist F
  | _, _, _, _, .nil => ⟨[], by simpa using .nil, List.Sublist.refl _⟩
  | _, _, _, 0, .non (F := F) r => ⟨F, .non r, List.Sublist.refl _⟩
  | _, _, _, 0, .som (F := F) (G := G) _ r => ⟨G, .non r, List.sublist_append_right F G⟩
  | _, _, _, i + 1, .non r => by
    obtain ⟨F', r', s⟩ := ro_set_none (i := i) r
    exact ⟨F', .non r', s⟩
  | _, _, _, i + 1, .som (F := F) q r => by
    obtain ⟨F', r', s⟩ := ro_set_none (i := i) r
    exact ⟨F ++ F', .som q r', (List.Sublist.refl F).append s⟩
theorem ro_wipe {σ : Sl} {ρ : List (Option SV)} {F : List Addr} (r : RO K Φ H A σ ρ F) : ∀ vs : List Nat, ∃ F', RO K Φ H A (wipe σ vs) (wipeL ρ vs) F' ∧ F'.Sublist F
  | [] => ⟨F, r, List.Sublist.refl _⟩
  | v :: vs => by
    obtain ⟨F1, r1, s1⟩ := ro_wipe r vs
    obtain ⟨F2, r2, s2⟩ := ro_set_none (i := v) r1
    exact ⟨F2, r2, s2.trans s1⟩
theorem Stands.wipe (st : Stands K S σ H Φ A F G) (vs : List Nat) : ∃ F', Stands K (S.wipe vs) (L2.wipe σ vs) H Φ A F' G ∧ F'.Sublist F := by
  obtain ⟨F', r, s⟩ := ro_wipe st.ro vs
  exact ⟨F', ⟨st.le, r, st.rc, st.nd.sublist (s.append (List.Sublist.refl G))⟩, s⟩
theorem wipe_at (σ : Sl) : ∀ (vs : List Nat) (j : Nat), j ∉ vs → (L2.wipe σ vs)[j]? = σ[j]?
  | [], j, _ => rfl
  | v :: vs, j, h => by
    rw [List.mem_cons, not_or] at h
    unfold L2.wipe
    rw [List.getElem?_set_ne (fun e => h.1 e.symm)]
    exact wipe_at σ vs j h.2
theorem wipe_in (σ : Sl) : ∀ (vs : List Nat) (j : Nat), j ∈ vs → j < σ.length → (L2.wipe σ vs)[j]? = some none
  | v :: vs, j, h, hj => by
    unfold L2.wipe
    by_cases e : v = j
    · subst e; rw [List.getElem?_set_self (by rw [wipe_length]; exact hj)]
    · rw [List.getElem?_set_ne e]
      exact wipe_in σ vs j (by rcases List.mem_cons.mp h with h | h; exact absurd h.symm e; exact h) hj
/-- wiped again -/
theorem wipe_but {σ σ' : Sl} {vs is : List Nat} (h : But is (L2.wipe σ vs) σ') (hi : ∀ i ∈ is, i ∈ vs) : L2.wipe σ' vs = L2.wipe σ vs := by
  have hl : σ'.length = σ.length := by rw [h.1, wipe_length]
  apply List.ext_getElem?
  intro j
  by_cases hj : j ∈ vs
  · by_cases hlt : j < σ.length
    · rw [wipe_in σ' vs j hj (by omega), wipe_in σ vs j hj hlt]
    · rw [List.getElem?_eq_none (by rw [wipe_length]; omega), List.getElem?_eq_none (by rw [wipe_length]; omega)]
  · rw [wipe_at σ' vs j hj, h.2 j (fun z => hj (hi j z))]
/-- from wiped slots to the slots as they are -/
theorem ro_unset : ∀ {σ : Sl} {ρ : List (Option SV)} {F : List Addr} {i : Nat}, RO K Φ H A (σ.set i none) ρ F → RO K Φ H A σ ρ F
  | [], _, _, _, r => by simpa using r
  | o :: σ, _, _, 0, .non r => .non r
  | o :: σ, _, _, i + 1, r => by
    have r : RO K Φ H A (o :: σ.set i none) _ _ := r
    cases r with
    | non r2 => exact .non (ro_unset r2)
    | som q r2 => exact .som q (ro_unset r2)
theorem ro_unwipe : ∀ (vs : List Nat) {σ : Sl} {ρ : List (Option SV)} {F : List Addr}, RO K Φ H A (L2.wipe σ vs) ρ F → RO K Φ H A σ ρ F
  | [], _, _, _, r => r
  | v :: vs, σ, ρ, F, r => ro_unwipe vs (ro_unset (i := v) r)
theorem Stands.unwipe {vs : List Nat} (st : Stands K S (L2.wipe σ vs) H Φ A F G) : Stands K S σ H Φ A F G := ⟨st.le, ro_unwipe vs st.ro, st.rc, st.nd⟩
theorem frz_wipe (S : Sto) : ∀ vs : List Nat, Frz S (S.wipe vs) := by
  intro vs
  induction vs with
  | nil => exact .refl
  | cons v vs ih =>
    intro i p y hp h
    refine ih i p y hp ?_
    unfold Sto.sub at h ⊢
    have e : (S.wipe (v :: vs)).ρ = ((S.wipe vs).ρ).set v none := rfl
    rw [e] at h
    by_cases hj : v = i
    · subst hj
      by_cases hl : v < (S.wipe vs).ρ.length
      · rw [List.getElem?_set_self hl] at h; cases h
      · rw [List.getElem?_eq_none (by simpa using hl)] at h; cases h
    · rw [List.getElem?_set_ne hj] at h; exact h
theorem Step.subF {F1 G1 F2 : List Addr} {H1 Φ1 : Hp} {A1 : List Addr} (a : Step F G H Φ A F1 G1 H1 Φ1 A1) (h : ∀ b ∈ F2, b ∈ F1) : Step F G H Φ A F2 G1 H1 Φ1 A1 := ⟨a.keep, a.le, a.grow, fun b hb => a.ownF b (h b hb), a.ownG, a.live, a.cells⟩
theorem tg_frz {tg : Tg} : True := trivial
end
/-- the elements, one for each datum that the test lets by -/
def compF (tg : Tg) (ft : FT) (fe : FE) (vs : List Nat) : List D → List SV → Sto → Option (List SV × Sto)
  | [], acc, S => some (acc, S)
  | d :: r, acc, S => match tgS tg d S.ρ with
    | some ρ => match ft { S with ρ := ρ } with
      | some (.ok true S1) => match fe S1 with
        | some (.ok y S2) => match y.kid S2 with
          | some (x, S3) => if acc.length < 1000000 then compF tg ft fe vs r (acc ++ [x]) (S3.wipe vs) else none
          | none => none
        | _ => none
      | some (.ok false S1) => compF tg ft fe vs r acc (S1.wipe vs)
      | _ => none
    | none => none
def fComp (tg : Tg) (fi : FI) (ft : FT) (fe : FE) (vs : List Nat) : FE := bindE fi fun ds S => match compF tg ft fe vs ds [] (S.wipe vs) with
  | some (acc, S1) => some (.ok (.val (.own acc)) S1)
  | none => none
/-- within a comprehension nothing is raised -/
abbrev W0 : WX := fun _ _ _ _ => False
theorem rss_snoc {K : PySem.W.Frag} {Φ H : Hp} {A : List Addr} {vs : List V} {xs : List SV} {U T : List Addr} {v : V} {x : SV} (h : RSs K Φ H A vs xs U) (q : RS K Φ H A v x T) : RSs K Φ H A (vs ++ [v]) (xs ++ [x]) (U ++ T) := by
  have := h.app (RSs.cons q (.nil (K := K) (Φ := Φ) (H := H) (A := A)))
  rwa [List.append_nil] at this
/-- a list of our own, one longer -/
theorem grow_list {K : PySem.W.Frag} {S : Sto} {σ : Sl} {H Φ : Hp} {A F G U T : List Addr} {p : Addr} {acc : List SV} {v : V} {x : SV} (st : Stands K S σ H Φ A F G) (h : RS K Φ H A (.ref p) (.own acc) (p :: U)) (q : RS K Φ H A v x T) (nd : ((p :: U) ++ (T ++ (F ++ G))).Nodup) :
    ∃ vs, H p = some (.lst vs) ∧ vs.length = acc.length ∧ Stands K S σ (upd H p (.lst (vs ++ [v]))) Φ A F G ∧ RS K Φ (upd H p (.lst (vs ++ [v]))) A (.ref p) (.own (acc ++ [x])) (p :: (U ++ T)) := by
  cases h with
  | node ea f pa r =>
    rename_i vs
    have ea : H p = some (.lst vs) := ea
    have nep : ∀ b ∈ U ++ (T ++ (F ++ G)), b ≠ p := fun b hb e => by
      subst e
      exact (List.nodup_cons.mp nd).1 hb
    have same : ∀ b ∈ U ++ (T ++ (F ++ G)), upd H p (.lst (vs ++ [v])) b = H b := fun b hb => upd_ne (nep b hb)
    have leΦ : Same Φ (upd H p (.lst (vs ++ [v]))) := fun b o e => by
      have hb : b ≠ p := fun z => by subst z; rw [pa] at e; cases e
      rw [upd_ne hb]; exact st.le _ _ e
    refine ⟨vs, ea, r.length, ⟨leΦ, st.ro.frame (Same.refl _) Pfx.refl (fun b hb => same b (by simp [hb])) (fun b hb => (st.ro.there b hb).2), st.rc.frame (Same.refl _) Pfx.refl (fun b hb => same b (by simp [hb])) (fun b hb => (st.rc.there b hb).2), st.nd⟩, ?_⟩
    exact .node (n := .lst) upd_same ⟨trivial, trivial⟩ pa (rss_snoc (r.frame (Same.refl _) Pfx.refl (fun b hb => same b (by simp [hb])) (fun b hb => (r.there b hb).2)) (q.frame (Same.refl _) Pfx.refl (fun b hb => same b (by simp [hb])) (fun b hb => (q.there b hb).2)))
theorem put_frz {μ : List SV} {ρ : List (Option SV)} {i : Nat} {d : D} : Frz ⟨ρ, μ⟩ ⟨ρ.set i (some (.dat d)), μ⟩ := fun j p y hp h => by
  unfold Sto.sub at h ⊢
  dsimp only at h ⊢
  by_cases hj : i = j
  · subst hj
    by_cases hl : i < ρ.length
    · rw [List.getElem?_set_self hl] at h
      cases p with
      | nil => exact absurd rfl hp
      | cons k p => cases h
    · rw [List.getElem?_eq_none (by simpa using hl)] at h; cases h
  · rw [List.getElem?_set_ne hj] at h; exact ⟨y, h⟩
mutual
theorem tgS_frz {μ : List SV} : ∀ (tg : Tg) (d : D) (ρ0 ρ : List (Option SV)), tgS tg d ρ0 = some ρ → Frz ⟨ρ0, μ⟩ ⟨ρ, μ⟩
  | .nm i, d, ρ0, ρ, e => by
    rw [tgS] at e
    split at e
    · cases e; exact put_frz
    · cases e
  | .tp ts, .tup ds, ρ0, ρ, e => by rw [tgS] at e; exact tgsS_frz ts ds ρ0 ρ e
  | .tp ts, .non, ρ0, ρ, e => by simp [tgS] at e
  | .tp ts, .bl _, ρ0, ρ, e => by simp [tgS] at e
  | .tp ts, .int _, ρ0, ρ, e => by simp [tgS] at e
  | .tp ts, .str _, ρ0, ρ, e => by simp [tgS] at e
  | .tp ts, .lst ds, ρ0, ρ, e => by rw [tgS] at e; exact tgsS_frz ts ds ρ0 ρ e
  | .tp ts, .dK _ _, ρ0, ρ, e => by simp [tgS] at e
  | .tp ts, .dT _ _, ρ0, ρ, e => by simp [tgS] at e
  | .tp ts, .fn _, ρ0, ρ, e => by simp [tgS] at e
theorem tgsS_frz {μ : List SV} : ∀ (ts : List Tg) (ds : List D) (ρ0 ρ : List (Option SV)), tgsS ts ds ρ0 = some ρ → Frz ⟨ρ0, μ⟩ ⟨ρ, μ⟩
  | [], [], ρ0, ρ, e => by rw [tgsS] at e; cases e; exact .refl
  | [], _ :: _, ρ0, ρ, e => by simp [tgsS] at e
  | _ :: _, [], ρ0, ρ, e => by simp [tgsS] at e
  | t :: ts, d :: ds, ρ0, ρ, e => by
    rw [tgsS] at e
    cases e1 : tgS t d ρ0 with
    | none => rw [e1] at e; cases e
    | some ρ1 => rw [e1] at e; exact (tgS_frz t d ρ0 ρ1 e1).trans (tgsS_frz ts ds ρ1 ρ e)
end
theorem tg_step {S : Sto} {tg : Tg} {d : D} {ρ : List (Option SV)} (e : tgS tg d S.ρ = some ρ) : Frz S { S with ρ := ρ } := tgS_frz tg d S.ρ ρ e
theorem ev_comp {K : PySem.W.Frag} {W : WX} {wi : TI} {g : TG} {tt : TT} {te : TE} {tg : Tg} {fi : FI} {ft : FT} {fe : FE} {vs : List Nat} (hi : IEV K W wi fi) (hg : GEV K g tg) (ht : EVT K W0 tt ft) (he : EV K W0 te fe) (hv : ∀ i ∈ tg.sl, i ∈ vs) :
    EV K W (tLc wi g tt te vs) (fComp tg fi ft fe vs) := fun S σ H Φ A F G st out ho Q q => by
  unfold fComp bindE at ho
  cases e : fi S with
  | none => rw [e] at ho; cases ho
  | some o =>
    rw [e] at ho
    cases o with
    | exc x S1 => cases ho; exact hi S σ H Φ A F G st _ e _ q
    | ok ds S1 =>
      refine hi S σ H Φ A F G st _ e _ fun J H1 Φ1 A1 F1 G1 sp st1 fz wk => ?_
      dsimp only at ho
      intro L hL
      cases ec : compF tg ft fe vs ds [] (S1.wipe vs) with
      | none => rw [ec] at ho; cases ho
      | some z =>
        obtain ⟨accE, SE⟩ := z
        rw [ec] at ho; cases ho
        obtain ⟨F1', stw, sub1⟩ := st1.wipe vs
        refine ⟨fun i m H2 => i + m = ds.length ∧ ∃ S2 Φ2 A2 F2 G2 acc U, Step F1 G1 H1 Φ1 A1 ((L :: U) ++ F2) G2 H2 Φ2 A2 ∧ Stands K S2 (L2.wipe σ vs) H2 Φ2 A2 F2 G2 ∧ RS K Φ2 H2 A2 (.ref L) (.own acc) (L :: U) ∧ ((L :: U) ++ (F2 ++ G2)).Nodup ∧ Frz S1 S2 ∧ Same Φ1 Φ2 ∧ compF tg ft fe vs (ds.drop i) acc S2 = some (accE, SE),
          ⟨ds.length, by omega, S1.wipe vs, Φ1, A1, F1', G1, [], [], ?_⟩, ?_⟩
        · obtain ⟨n1, n2, n3, n4⟩ := new_list stw (.nil (K := K) (Φ := Φ1) (H := H1) (A := A1)) (by simpa using stw.nd) hL
          refine ⟨?_, n2, n3, n4, frz_wipe S1 vs, Same.refl _, by simpa using ec⟩
          have := n1
          simp only [List.nil_append] at this
          exact ⟨this.keep, this.le, fun b o e => .inl e, fun b hb => by
            rcases this.ownF b hb with h | h | h
            · exact .inl (sub1.subset h)
            · exact .inr (.inl h)
            · exact .inr (.inr h), this.ownG, this.live, this.cells⟩
        · rintro i m H2 ⟨em, S2, Φ2, A2, F2, G2, acc, U, sp2, st2, rl, nd2, fz2, le2, h2⟩
          obtain ⟨w1, w2⟩ := wk S2 (L2.wipe σ vs) H2 Φ2 A2 F2 G2 st2 le2 i
          by_cases hi : i < ds.length
          · have ed : ds[i]? = some ds[i] := List.getElem?_eq_getElem hi
            obtain ⟨jgo, jy⟩ := w1 _ ed
            have ecd : ds.drop i = ds[i] :: ds.drop (i + 1) := List.drop_eq_getElem_cons hi
            rw [ecd] at h2
            refine .inr ⟨jgo, fun H' => ∃ S3 Φ3 A3 F3 G3 acc3 U3, Step F1 G1 H1 Φ1 A1 ((L :: U3) ++ F3) G3 H' Φ3 A3 ∧ Stands K S3 (L2.wipe σ vs) H' Φ3 A3 F3 G3 ∧ RS K Φ3 H' A3 (.ref L) (.own acc3) (L :: U3) ∧ ((L :: U3) ++ (F3 ++ G3)).Nodup ∧ Frz S1 S3 ∧ Same Φ1 Φ3 ∧ compF tg ft fe vs (ds.drop (i + 1)) acc3 S3 = some (accE, SE),
              fun H' h => ⟨m - 1, by omega, by omega, h⟩, fun x H' hy => ?_⟩
            obtain ⟨Φ3, sp3, st3, rp3⟩ := jy x H' hy
            have h2 : (match tgS tg ds[i] S2.ρ with
              | some ρ => match ft { S2 with ρ := ρ } with
                | some (.ok true S1) => match fe S1 with
                  | some (.ok y S2) => match y.kid S2 with
                    | some (x, S3) => if acc.length < 1000000 then compF tg ft fe vs (ds.drop (i + 1)) (acc ++ [x]) (S3.wipe vs) else none
                    | none => none
                  | _ => none
                | some (.ok false S1) => compF tg ft fe vs (ds.drop (i + 1)) acc (S1.wipe vs)
                | _ => none
              | none => none) = some (accE, SE) := h2
            cases e3 : tgS tg ds[i] S2.ρ with
            | none => rw [e3] at h2; cases h2
            | some ρ =>
              rw [e3] at h2
              dsimp only at h2
              -- the target stored
              have rl3 := rl.frame sp3.le sp3.cells (sp3.same (T := L :: U) (fun b hb => rl.there b hb) nd2).1 (sp3.same (T := L :: U) (fun b hb => rl.there b hb) nd2).2
              refine hg S2 (L2.wipe σ vs) H' Φ3 A2 F2 G2 x ds[i] ρ st3 rp3 e3 _ fun σ4 F4 st4 hF4 but4 => ⟨wipe_but but4 hv, ?_⟩
              have nd4 : ((L :: U) ++ (F4 ++ G2)).Nodup := by
                have n4 := st4.nd
                refine List.nodup_append.mpr ⟨(List.nodup_append.mp nd2).1, n4, fun a ha b hb => (List.nodup_append.mp nd2).2.2 a ha b ?_⟩
                rcases List.mem_append.mp hb with hb | hb
                · exact List.mem_append_left _ (hF4 b hb)
                · exact List.mem_append_right _ hb
              have s4 : Step F1 G1 H1 Φ1 A1 ((L :: U) ++ F4) G2 H' Φ3 A2 := (Step.trans (T1 := []) sp2 sp3).subF (F2 := (L :: U) ++ F4) (fun b hb => by
                rcases List.mem_append.mp hb with hb | hb
                · exact List.mem_append_left _ hb
                · exact List.mem_append_right _ (hF4 b hb))
              have fz4 : Frz S1 { S2 with ρ := ρ } := fz2.trans (tg_step e3)
              cases e5 : ft { S2 with ρ := ρ } with
              | none => rw [e5] at h2; cases h2
              | some o5 =>
                rw [e5] at h2
                cases o5 with
                | exc x5 S5 => cases h2
                | ok b S5 =>
                  refine ht _ σ4 H' Φ3 A2 F4 G2 st4 _ e5 _ fun H5 Φ5 A5 F5 G5 sp5 st5 fz5 => ?_
                  obtain ⟨k5, p5⟩ := sp5.same (T := L :: U) (fun b hb => rl3.there b hb) nd4
                  have rl5 := rl3.frame sp5.le sp5.cells k5 p5
                  have nd5 : ((L :: U) ++ (F5 ++ G5)).Nodup := sp5.apart (fun b hb => (rl3.there b hb).1) nd4 st5.nd
                  have s5 : Step F1 G1 H1 Φ1 A1 ((L :: U) ++ F5) G5 H5 Φ5 A5 := Step.trans (T1 := []) s4 sp5
                  cases b with
                  | false =>
                    rw [if_neg (by decide)]
                    dsimp only at h2
                    obtain ⟨F6, st6, sub6⟩ := st5.wipe vs
                    rw [wipe_but but4 hv] at st6
                    refine ⟨S5.wipe vs, Φ5, A5, F6, G5, acc, U, s5.subF (fun b hb => ?_), st6, rl5, ?_, (fz4.trans fz5).trans (frz_wipe _ _), s5.le, h2⟩
                    · rcases List.mem_append.mp hb with hb | hb
                      · exact List.mem_append_left _ hb
                      · exact List.mem_append_right _ (sub6.subset hb)
                    · exact nd5.sublist ((List.Sublist.refl _).append (sub6.append (List.Sublist.refl _)))
                  | true =>
                    rw [if_pos rfl]
                    dsimp only at h2
                    cases e6 : fe S5 with
                    | none => rw [e6] at h2; cases h2
                    | some o6 =>
                      rw [e6] at h2
                      cases o6 with
                      | exc x6 S6 => cases h2
                      | ok y S6 =>
                        refine he S5 σ4 H5 Φ5 A5 F5 G5 st5 _ e6 _ fun yv H6 Φ6 A6 T F6 G6 sp6 st6 rv6 nd6 fz6 => ?_
                        dsimp only at h2
                        obtain ⟨k6, p6⟩ := sp6.same (T := L :: U) (fun b hb => rl5.there b hb) nd5
                        have rl6 := rl5.frame sp6.le sp6.cells k6 p6
                        have nd6' : ((L :: U) ++ (T ++ (F6 ++ G6))).Nodup := by
                          have := sp6.apart (fun b hb => (rl5.there b hb).1) nd5 (by rw [List.append_assoc]; exact nd6)
                          simpa [List.append_assoc] using this
                        have s6 : Step F1 G1 H1 Φ1 A1 ((L :: U) ++ (T ++ F6)) G6 H6 Φ6 A6 := s5.trans sp6
                        cases ek : y.kid S6 with
                        | none => rw [ek] at h2; cases h2
                        | some z7 =>
                          obtain ⟨x7, S7⟩ := z7
                          rw [ek] at h2
                          dsimp only at h2
                          obtain ⟨Φ7, F7, sp7, st7, rs7, fz7⟩ := kid_ok st6 rv6 nd6 ek
                          have hT6 : ∀ b ∈ (L :: U) ++ T, H6 b ≠ none ∧ Φ6 b = none := fun b hb => by
                            rcases List.mem_append.mp hb with hb | hb
                            · exact rl6.there b hb
                            · exact rv6.there b hb
                          have nd6'' : (((L :: U) ++ T) ++ (F6 ++ G6)).Nodup := by simpa [List.append_assoc] using nd6'
                          obtain ⟨k7, p7⟩ := sp7.same (T := (L :: U) ++ T) hT6 nd6''
                          have rl7 := rl6.frame sp7.le sp7.cells (fun b hb => k7 b (List.mem_append_left _ hb)) (fun b hb => p7 b (List.mem_append_left _ hb))
                          have nd7 : ((L :: U) ++ (T ++ (F7 ++ G6))).Nodup := by
                            have := sp7.apart (T := (L :: U) ++ T) (fun b hb => (hT6 b hb).1) nd6'' st7.nd
                            simpa [List.append_assoc] using this
                          have s7 : Step F1 G1 H1 Φ1 A1 ((L :: U) ++ (T ++ F7)) G6 H6 Φ7 A6 := by
                            have s6' : Step F1 G1 H1 Φ1 A1 (((L :: U) ++ T) ++ F6) G6 H6 Φ6 A6 := by rw [List.append_assoc]; exact s6
                            have := Step.trans (T1 := []) s6' sp7
                            rw [List.nil_append, List.append_assoc] at this
                            exact this
                          by_cases hacc : acc.length < 1000000
                          · rw [if_pos hacc] at h2
                            obtain ⟨vs7, eL, hlen, st8, rs8⟩ := grow_list st7 rl7 rs7 nd7
                            refine ⟨vs7, eL, by rw [hlen]; exact Nat.lt_of_lt_of_le hacc (by rw [sizeLine_eq]; decide), ?_⟩
                            obtain ⟨F9, st9, sub9⟩ := st8.wipe vs
                            rw [wipe_but but4 hv] at st9
                            refine ⟨S7.wipe vs, Φ7, A6, F9, G6, acc ++ [x7], U ++ T, ⟨fun b o eb hb => ?_, s7.le, s7.grow, fun b hb => ?_, s7.ownG, fun b hb => ?_, s7.cells⟩, st9, rs8, ?_, (((fz4.trans fz5).trans fz6).trans fz7).trans (frz_wipe _ _), s7.le, h2⟩
                            · have nb : b ≠ L := fun z => by subst z; rw [hL] at eb; cases eb
                              rw [upd_ne nb]; exact s7.keep b o eb hb
                            · refine s7.ownF b ?_
                              simp only [List.mem_append, List.mem_cons] at hb ⊢
                              rcases hb with (h | h | h) | h
                              · exact .inl (.inl h)
                              · exact .inl (.inr h)
                              · exact .inr (.inl h)
                              · exact .inr (.inr (sub9.subset h))
                            · by_cases nb : b = L
                              · subst nb; rw [upd_same]; simp
                              · rw [upd_ne nb]; exact s7.live b hb
                            · have h9 : ((L :: U) ++ (T ++ (F9 ++ G6))).Nodup := nd7.sublist ((List.Sublist.refl _).append ((List.Sublist.refl _).append (sub9.append (List.Sublist.refl _))))
                              have e9 : (L :: (U ++ T)) ++ (F9 ++ G6) = (L :: U) ++ (T ++ (F9 ++ G6)) := by simp [List.append_assoc]
                              rw [e9]; exact h9
                          · rw [if_neg hacc] at h2; cases h2
          · have ei : i = ds.length := by omega
            rw [List.drop_eq_nil_of_le (by omega)] at h2
            cases h2
            refine .inl ⟨w2 ei, ?_⟩
            have s3 : Step F G H Φ A ((L :: U) ++ F2) G2 H2 Φ2 A2 := Step.trans (T := []) (T1 := L :: U) sp sp2
            exact q (.ref L) H2 Φ2 A2 (L :: U) F2 G2 s3 st2.unwipe rl nd2 (fz.trans fz2)
section
variable {X : Cx} {W : WX} {elt tge iter : Expr} {ifs : List Expr} {scope : Scope} {own : List (Str × Nat)} {pos spos py : Pos} {wi : TI} {g : TG} {tt : TT} {te : TE} {tg : Tg} {fi : FI} {ft : FT} {fe : FE}
structure DTs (X : Cx) (W : WX) (ifs : List Expr) (t : TT) (f : FT) : Prop where
  pe : PTs X ifs t
  ev : EVT X.K W t f
def fYes : FT := retE true
theorem dts_nil : DTs X W [] tYes fYes := ⟨pts_nil, fun S σ H Φ A F G st out ho Q q => by cases ho; exact q H Φ A F G .refl st .refl⟩
theorem dts_one {c : Expr} (h : DT X W c tt ft) : DTs X W [c] tt ft := ⟨pts_one h.pe, h.ev⟩
/-- what an expression that does f must be given, whatever its own terms -/
def tOf (K : PySem.W.Frag) (W : WX) (f : FE) : TE := fun σ H Q => ∃ S Φ A F G out, Stands K S σ H Φ A F G ∧ f S = some out ∧ PostE K W S σ H Φ A F G Q out
def tOfT (K : PySem.W.Frag) (W : WX) (f : FT) : TT := fun σ H Q => ∃ S Φ A F G out, Stands K S σ H Φ A F G ∧ f S = some out ∧ PostT K W S σ H Φ A F G Q out
theorem ev_tOf {K : PySem.W.Frag} {W : WX} {f : FE} : EV K W (tOf K W f) f := fun S σ H Φ A F G st out ho Q q => ⟨S, Φ, A, F, G, out, st, ho, q⟩
theorem ev_tOfT {K : PySem.W.Frag} {W : WX} {f : FT} : EVT K W (tOfT K W f) f := fun S σ H Φ A F G st out ho Q q => ⟨S, Φ, A, F, G, out, st, ho, q⟩
theorem DE.nf {e : Expr} (h : ∃ t, DE X W e t fe) : DE X W e (tOf X.K W fe) fe := by
  obtain ⟨t, h⟩ := h
  exact ⟨⟨fun pins s σ H Q I ⟨S, Φ, A, F, G, out, st, ho, q⟩ => h.pe.run pins s σ H Q I (h.ev S σ H Φ A F G st out ho Q q)⟩, ev_tOf⟩
theorem DTs.nf {es : List Expr} (h : ∃ t, DTs X W es t ft) : DTs X W es (tOfT X.K W ft) ft := by
  obtain ⟨t, h⟩ := h
  exact ⟨⟨fun pins s σ H Q I ⟨S, Φ, A, F, G, out, st, ho, q⟩ => h.pe.run pins s σ H Q I (h.ev S σ H Φ A F G st out ho Q q)⟩, ev_tOfT⟩
theorem de_comp (hc : X.calm = true) (hN : X.N.Nodup) (hi : DI X W tge iter wi fi) (ok : BlkOk X.N X.env.scope scope own)
    (hg : ∀ (s : Shared) (H : Hp) (C : Addr) (cl : List (Str × Addr)) (fp : List Addr), DG (X.blk s H scope (compEnvC scope cl C X.env) fp) tge g tg)
    (ht : ∀ (s : Shared) (H : Hp) (C : Addr) (cl : List (Str × Addr)) (fp : List Addr), ∃ tt, DTs (X.blk s H scope (compEnvC scope cl C X.env) fp) W0 ifs tt ft)
    (he : ∀ (s : Shared) (H : Hp) (C : Addr) (cl : List (Str × Addr)) (fp : List Addr), ∃ te, DE (X.blk s H scope (compEnvC scope cl C X.env) fp) W0 elt te fe)
    (hv : ∀ i ∈ tg.sl, i ∈ own.map (·.2) := by decide) (hs : ∀ x, foldedSetIterable iter X.env x = pure x := by intro _; rfl) :
    DE X W (.ListComp elt [⟨tge, iter, ifs, 0⟩] scope pos) (tLc wi g (tOfT X.K W0 ft) (tOf X.K W0 fe) (own.map (·.2))) (fComp tg fi ft fe (own.map (·.2))) :=
  ⟨pe_lc hc hN hi.pi ok (fun s H C cl fp => (hg s H C cl fp).pg) (fun s H C cl fp => (DTs.nf (ht s H C cl fp)).pe) (fun s H C cl fp => (DE.nf (he s H C cl fp)).pe) hs,
   ev_comp hi.ev (hg X.s_0 X.H_0 0 [] []).ev ev_tOfT ev_tOf hv⟩
theorem ds_setComp {y : Str} {i : Nat} (hc : X.calm = true) (hN : X.N.Nodup) (hi : DI X W tge iter wi fi) (ok : BlkOk X.N X.env.scope scope own)
    (hg : ∀ (s : Shared) (H : Hp) (C : Addr) (cl : List (Str × Addr)) (fp : List Addr), DG (X.blk s H scope (compEnvC scope cl C X.env) fp) tge g tg)
    (ht : ∀ (s : Shared) (H : Hp) (C : Addr) (cl : List (Str × Addr)) (fp : List Addr), ∃ tt, DTs (X.blk s H scope (compEnvC scope cl C X.env) fp) W0 ifs tt ft)
    (he : ∀ (s : Shared) (H : Hp) (C : Addr) (cl : List (Str × Addr)) (fp : List Addr), ∃ te, DE (X.blk s H scope (compEnvC scope cl C X.env) fp) W0 elt te fe)
    (hy : X.N[i]? = some y := by rfl) (hyl : X.env.scope.names.lookup y = some .local := by rfl)
    (hsw : swapsWith (.ListComp elt [⟨tge, iter, ifs, 0⟩] scope pos) (some (.Name y py)) spos.line X.env = pure true := by rfl)
    (hv : ∀ i ∈ tg.sl, i ∈ own.map (·.2) := by decide) (hs : ∀ x, foldedSetIterable iter X.env x = pure x := by intro _; rfl) :
    DS X W (.Assign [.Name y py] (.ListComp elt [⟨tge, iter, ifs, 0⟩] scope pos) spos) (tAsg (tLc wi g (tOfT X.K W0 ft) (tOf X.K W0 fe) (own.map (·.2))) (gName i)) (fSet i (fComp tg fi ft fe (own.map (·.2)))) :=
  ⟨ps_setLc hc hN hy hyl hsw hi.pi ok (fun s H C cl fp => (hg s H C cl fp).pg) (fun s H C cl fp => (DTs.nf (ht s H C cl fp)).pe) (fun s H C cl fp => (DE.nf (he s H C cl fp)).pe) hs,
   ev_set (ev_comp hi.ev (hg X.s_0 X.H_0 0 [] []).ev ev_tOfT ev_tOf hv)⟩
end
end L3

namespace L3
open PySem PySem.Spec PyProof.Rows L2

/-! ### owned nodes changed where they stand -/
section
variable {K : PySem.W.Frag} {W : WX} {S S' : Sto} {σ : Sl} {H Φ : Hp} {A F G T : List Addr} {v : V}
/-- slot i with the part at p anew -/
def Sto.putp (S : Sto) (i : Nat) (p : List Nat) (y : SV) : Option Sto := match S.ρ[i]? with
  | some (some x0) => some { S with ρ := S.ρ.set i (some (x0.putp p y)) }
  | _ => none
theorem mut_slot {i : Nat} {p : List Nat} {n : Nd} {xs : List SV} (st : Stands K S σ H Φ A F G) (e : S.sub i p = some (.node n xs)) (rv : RV K Φ H A S σ v (.bor i p) T) :
    ∃ a vs Fx, v = .ref a ∧ H a = some (n.ho vs) ∧ n.fits vs.length ∧ RSs K Φ H A vs xs Fx ∧ (∀ b ∈ a :: Fx, b ∈ F) ∧ (a :: Fx).Nodup ∧
      ∀ {n' : Nd} {vs' : List V} {xs' : List SV} {T' U' : List Addr} {S' : Sto}, (T' ++ (F ++ G)).Nodup → (∀ b ∈ T', H b ≠ none) → n'.fits vs'.length → RSs K Φ (upd H a (n'.ho vs')) A vs' xs' U' → (∀ b ∈ U', b ∈ Fx ∨ b ∈ T') → U'.Nodup →
        S.putp i p (.node n' xs') = some S' →
        ∃ F', Stands K S' σ (upd H a (n'.ho vs')) Φ A F' G ∧ Run (T' ++ F) G H Φ A F' G (upd H a (n'.ho vs')) Φ A := by
  obtain ⟨x0, e0, e1⟩ := sub_some e
  obtain ⟨rfl, v0, es, hp, hat⟩ := rv
  obtain ⟨v', F1, Fi, F2, e3, e4, q, up⟩ := st.ro.at e0
  rw [es] at e3; cases e3
  obtain ⟨u, E1, Ex, E2, a1, a2, a3, _, a5⟩ := RS.sub q e1
  have hu : u = v := a1.inj (hat _ e)
  subst hu
  cases a3 with
  | @node a _ vs _ Fx ea f pa qs =>
    subst a2 e4
    refine ⟨a, vs, Fx, rfl, ea, f, qs, fun b hb => by simp only [List.mem_append, List.mem_cons] at hb ⊢; grind, ?_, fun {n' vs' xs' T' U' S'} nd hT fit rs' hU ndU eS => ?_⟩
    · have := st.nd
      simp only [List.nodup_append, List.mem_append, List.nodup_cons, List.mem_cons] at this ⊢; grind
    · unfold Sto.putp at eS
      rw [e0] at eS
      cases eS
      have ndF := st.nd
      have nea : ∀ b, b ∈ (F1 ++ (E1 ++ E2) ++ F2) ++ G → b ≠ a := fun b hb z => by
        subst z
        simp only [List.nodup_append, List.mem_append, List.nodup_cons, List.mem_cons] at ndF hb; grind
      have same : ∀ b, b ∈ (F1 ++ (E1 ++ E2) ++ F2) ++ G → upd H a (n'.ho vs') b = H b := fun b hb => upd_ne (nea b hb)
      have node' : RS K Φ (upd H a (n'.ho vs')) A (.ref a) (.node n' xs') (a :: U') := .node upd_same fit pa rs'
      have r0 := a5 (Φ' := Φ) (H' := upd H a (n'.ho vs')) (A' := A) (Same.refl _) Pfx.refl (fun b hb => same b (by simp only [List.mem_append] at hb ⊢; grind)) (fun b hb => (RS.there q b (by simp only [List.mem_append] at hb ⊢; grind)).2) node'
      have r1 := (up (Φ' := Φ) (H' := upd H a (n'.ho vs')) (A' := A) (Same.refl _) Pfx.refl (fun b hb => same b (by simp only [List.mem_append] at hb ⊢; grind)) (fun b hb => (st.ro.there b (by simp only [List.mem_append] at hb ⊢; grind)).2)).1 r0
      have eσ : σ.set i (some v0) = σ := by
        obtain ⟨hk, ev⟩ := List.getElem?_eq_some_iff.mp es
        rw [← ev]; exact List.set_getElem_self hk
      rw [eσ] at r1
      have leΦ : Same Φ (upd H a (n'.ho vs')) := fun b o eb => by
        have hb : b ≠ a := fun z => by subst z; rw [pa] at eb; cases eb
        rw [upd_ne hb]; exact st.le _ _ eb
      refine ⟨F1 ++ ((E1 ++ ((a :: U') ++ E2)) ++ F2), ⟨leΦ, r1, st.rc.frame (Same.refl _) Pfx.refl (fun b hb => same b (by simp [hb])) (fun b hb => (st.rc.there b hb).2), ?_⟩, ⟨fun b o eb hf hg => ?_, Same.refl _, fun b o eb => .inl eb, fun b hb => ?_, fun b hb => ?_, Pfx.refl⟩⟩
      · have hU' : ∀ b ∈ U', b ∉ (F1 ++ (E1 ++ E2) ++ F2) ++ G ∧ b ≠ a := fun b hb => by
          rcases hU b hb with h | h
          · simp only [List.nodup_append, List.mem_append, List.nodup_cons, List.mem_cons] at ndF ⊢; grind
          · simp only [List.nodup_append, List.mem_append, List.nodup_cons, List.mem_cons] at nd ⊢; grind
        simp only [List.nodup_append, List.mem_append, List.nodup_cons, List.mem_cons] at ndF hU' ⊢; grind
      · have hb : b ≠ a := fun z => by subst z; exact hf (by simp)
        rw [upd_ne hb]; exact eb
      · rcases hb with hb | hb
        · simp only [List.mem_append, List.mem_cons] at hb ⊢
          grind
        · exact .inr (.inl hb)
      · by_cases z : b = a
        · subst z; rw [upd_same]; simp
        · rw [upd_ne z]; exact hb
/-- a cell changed -/
def Sto.cellp (S : Sto) (k : Nat) (y : SV) : Sto := { S with μ := S.μ.set k y }
theorem mut_cell {k : Nat} {n : Nd} {xs : List SV} {U : List Addr} (st : Stands K S σ H Φ A F G) (e : S.μ[k]? = some (.node n xs)) (rv : RS K Φ H A v (.cell k) U) :
    ∃ a vs Fx, v = .ref a ∧ H a = some (n.ho vs) ∧ n.fits vs.length ∧ RSs K Φ H A vs xs Fx ∧ (∀ b ∈ a :: Fx, b ∈ G) ∧ (a :: Fx).Nodup ∧
      ∀ {n' : Nd} {vs' : List V} {xs' : List SV} {T' U' : List Addr}, (T' ++ (F ++ G)).Nodup → (∀ b ∈ T', H b ≠ none) → n'.fits vs'.length → RSs K Φ (upd H a (n'.ho vs')) A vs' xs' U' → (∀ b ∈ U', b ∈ Fx ∨ b ∈ T') → U'.Nodup →
        ∃ G', Stands K (S.cellp k (.node n' xs')) σ (upd H a (n'.ho vs')) Φ A F G' ∧ Run (T' ++ F) G H Φ A F G' (upd H a (n'.ho vs')) Φ A := by
  cases rv with
  | @cell _ a hc =>
    obtain ⟨a', F1, Fi, F2, e1, e2, q, up⟩ := st.rc.at e
    rw [hc] at e1
    have ea' : a = a' := Option.some.inj e1
    subst ea'
    cases q with
    | @node _ _ vs _ _ ea f pa qs =>
      subst e2
      have ndF := st.nd
      refine ⟨a, vs, Fi, rfl, ea, f, qs, fun b hb => by simp only [List.mem_append, List.mem_cons] at hb ⊢; grind, ?_, fun {n' vs' xs' T' U'} nd hT fit rs' hU ndU => ?_⟩
      · simp only [List.nodup_append, List.mem_append, List.nodup_cons, List.mem_cons] at ndF ⊢; grind
      · have nea : ∀ b, b ∈ F ++ (F1 ++ F2) → b ≠ a := fun b hb z => by
          subst z
          simp only [List.nodup_append, List.mem_append, List.nodup_cons, List.mem_cons] at ndF hb; grind
        have same : ∀ b, b ∈ F ++ (F1 ++ F2) → upd H a (n'.ho vs') b = H b := fun b hb => upd_ne (nea b hb)
        have node' : RS K Φ (upd H a (n'.ho vs')) A (.ref a) (.node n' xs') (a :: U') := .node upd_same fit pa rs'
        have r1 := up (Φ' := Φ) (H' := upd H a (n'.ho vs')) (A' := A) (Same.refl _) Pfx.refl (fun b hb => same b (by simp only [List.mem_append] at hb ⊢; grind)) (fun b hb => (st.rc.there b (by simp only [List.mem_append] at hb ⊢; grind)).2) node'
        have leΦ : Same Φ (upd H a (n'.ho vs')) := fun b o eb => by
          have hb : b ≠ a := fun z => by subst z; rw [pa] at eb; cases eb
          rw [upd_ne hb]; exact st.le _ _ eb
        refine ⟨F1 ++ ((a :: U') ++ F2), ⟨leΦ, st.ro.frame (Same.refl _) Pfx.refl (fun b hb => same b (by simp [hb])) (fun b hb => (st.ro.there b hb).2), r1, ?_⟩, ⟨fun b o eb hf hg => ?_, Same.refl _, fun b o eb => .inl eb, fun b hb => ?_, fun b hb => ?_, Pfx.refl⟩⟩
        · have hU' : ∀ b ∈ U', b ∉ F ++ (F1 ++ F2) ∧ b ≠ a := fun b hb => by
            rcases hU b hb with h | h
            · simp only [List.nodup_append, List.mem_append, List.nodup_cons, List.mem_cons] at ndF ⊢; grind
            · simp only [List.nodup_append, List.mem_append, List.nodup_cons, List.mem_cons] at nd ⊢; grind
          simp only [List.nodup_append, List.mem_append, List.nodup_cons, List.mem_cons] at ndF hU' ⊢; grind
        · have hb : b ≠ a := fun z => by subst z; exact hg (by simp)
          rw [upd_ne hb]; exact eb
        · rcases hb with hb | hb
          · exact .inl (List.mem_append_right _ hb)
          · simp only [List.mem_append, List.mem_cons] at hb ⊢
            grind
        · by_cases z : b = a
          · subst z; rw [upd_same]; simp
          · rw [upd_ne z]; exact hb
end

/-! ### x.append(e) -/
def pushAt (ro : R) (x : SV) (S : Sto) : Option Sto := match ro with
  | .bor i p => match S.sub i p with
    | some (.node .lst xs) => if xs.length < 1000000 then S.putp i p (.own (xs ++ [x])) else none
    | _ => none
  | _ => none
def fAppend (fo fe : FE) : FS := bindS fo fun ro S1 => match ro.sv S1 with
  | some (.node .lst _) => bindS fe (fun re S2 => match re.kid S2 with
    | some (x, S3) => (pushAt ro x S3).map SO.nx
    | none => none) S1
  | _ => none
theorem ev_append {K : PySem.W.Frag} {W : WX} {to te : TE} {fo fe : FE} (ho : EV K W to fo) (he : EV K W te fe) :
    SEV K W (fun D σ H => to σ H fun x H1 => tyV K "list" x H1 ∧ te σ H1 fun y H2 => rAppend x [y] H2 fun _ H3 => D.nx σ H3) (fAppend fo fe) := fun S σ H Φ A F G st out h D q => by
  refine runS (t := to) ho st h q fun ro S1 v H1 Φ1 A1 T F1 G1 sp st1 rv nd h1 => ?_
  cases ex : ro.sv S1 with
  | none => rw [ex] at h1; cases h1
  | some x =>
    rw [ex] at h1
    cases x with
    | dat d => cases h1
    | cell c => cases h1
    | node n xs =>
      cases n <;> try cases h1
      obtain ⟨U, rs, _⟩ := rv.rs st1 ex
      have hty : tyV K "list" v H1 := by
        cases rs with
        | node ea f pa qs => exact .inl ⟨rfl, _, .inl (.inl ea)⟩
      refine ⟨hty, ?_⟩
      have h1 : bindS fe (fun re S2 => match re.kid S2 with
        | some (x, S3) => (pushAt ro x S3).map SO.nx
        | none => none) S1 = some out := h1
      unfold bindS at h1
      cases e2 : fe S1 with
      | none => rw [e2] at h1; cases h1
      | some o2 =>
        rw [e2] at h1
        have q1 := q.at sp.drop.run
        cases o2 with
        | exc x2 S2 => cases h1; exact he S1 σ H1 Φ1 A1 F1 G1 st1 _ e2 _ (XS.xp (σ := σ) q1)
        | ok re S2 =>
          refine he S1 σ H1 Φ1 A1 F1 G1 st1 _ e2 _ fun y H2 Φ2 A2 T2 F2 G2 sp2 st2 rv2 nd2 fz2 => ?_
          dsimp only at h1
          cases ek : re.kid S2 with
          | none => rw [ek] at h1; cases h1
          | some z =>
            obtain ⟨x3, S3⟩ := z
            rw [ek] at h1
            dsimp only at h1
            have ro2 := RV.step st1 rv nd sp2.drop fz2
            have ndo2 : (T ++ (F2 ++ G2)).Nodup := by
              have := sp2.apart (fun b hb => (rv.there b hb).1) nd (by rw [List.append_assoc]; exact nd2)
              simp only [List.nodup_append, List.mem_append] at this ⊢; grind
            obtain ⟨Φ3, F3, sp3, st3, rs3, fz3⟩ := kid_ok st2 rv2 nd2 ek
            have ro3 := RV.step st2 ro2 ndo2 sp3 fz3
            have nd3 : (T2 ++ (F3 ++ G2)).Nodup := sp3.apart (fun b hb => (rv2.there b hb).1) nd2 st3.nd
            cases ep : pushAt ro x3 S3 with
            | none => rw [ep] at h1; cases h1
            | some S4 =>
              rw [ep] at h1; cases h1
              unfold pushAt at ep
              cases ro with
              | val z => cases ep
              | bor i p =>
                dsimp only at ep
                cases es : S3.sub i p with
                | none => rw [es] at ep; cases ep
                | some z =>
                  rw [es] at ep
                  cases z with
                  | dat d => cases ep
                  | cell c => cases ep
                  | node n ys =>
                    cases n <;> try cases ep
                    dsimp only at ep
                    by_cases hl : ys.length < 1000000
                    · rw [if_pos hl] at ep
                      obtain ⟨a, vs, Fx, rfl, ea, f, qs, hF, ndx, up⟩ := mut_slot st3 es ro3
                      have hl' : vs.length < sizeLine := by rw [qs.length]; exact Nat.lt_of_lt_of_le hl (by rw [sizeLine_eq]; decide)
                      have nea : ∀ b, b ∈ Fx ++ T2 → b ≠ a := fun b hb z => by
                        subst z
                        rcases List.mem_append.mp hb with hb | hb
                        · exact (List.nodup_cons.mp ndx).1 hb
                        · exact (List.nodup_append.mp nd3).2.2 b hb b (List.mem_append_left _ (hF b (List.mem_cons_self ..))) rfl
                      have rs' : RSs K Φ3 (upd H2 a (Nd.lst.ho (vs ++ [y]))) A2 (vs ++ [y]) (ys ++ [x3]) (Fx ++ T2) :=
                        rss_snoc (qs.frame (Same.refl _) Pfx.refl (fun b hb => upd_ne (nea b (by simp [hb]))) (fun b hb => (qs.there b hb).2)) (rs3.frame (Same.refl _) Pfx.refl (fun b hb => upd_ne (nea b (by simp [hb]))) (fun b hb => (rs3.there b hb).2))
                      obtain ⟨F4, st4, rn4⟩ := up (n' := .lst) (T' := T2) nd3 (fun b hb => (rs3.there b hb).1) ⟨trivial, trivial⟩ rs' (fun b hb => List.mem_append.mp hb) (by
                        have h1 := List.nodup_cons.mp ndx
                        refine List.nodup_append.mpr ⟨h1.2, (List.nodup_append.mp nd3).1, fun a ha b hb e => ?_⟩
                        subst e
                        exact (List.nodup_append.mp nd3).2.2 a hb a (List.mem_append_left _ (hF a (List.mem_cons_of_mem _ ha))) rfl) ep
                      have s23 : Step F1 G1 H1 Φ1 A1 (T2 ++ F3) G2 H2 Φ3 A2 := Step.trans (T1 := []) sp2 sp3
                      exact ⟨a, vs, y, rfl, rfl, ea, hl', q1 σ _ Φ3 A2 F4 G2 (s23.run.trans rn4) st4⟩
                    · rw [if_neg hl] at ep; cases ep
section
variable {X : Cx} {W : WX} {o e : Expr} {pos apos cpos : Pos} {to te : TE} {fo fe : FE}
theorem ds_append (ho : DE X W o to fo) (he : DE X W e te fe) (hs : swapsWith (.Call (.Attribute o "append" apos) [e] [] cpos) none pos.line X.env = pure false := by rfl)
    (hbase : attributeBase o "append" X.env (eval o X.env) = eval o X.env := by rfl)
    (hfew : ((backTo cpos (starEach [e] X.env)).all (fun x => !x.1) && (backToKw cpos (keywordEach [] X.env)).all (fun x => x.1.isSome)
      && decide ([e].length + ([] : List Keyword).length + (if ([] : List Keyword).isEmpty then 0 else 1) < 30)) = true := by rfl)
    (hline : (apos.endLine == cpos.line) = true := by rfl) (hst : starEach [e] X.env = (false, eval e X.env) :: starEach [] X.env := by rfl) (hplain : (backTo cpos (starEach [] X.env)).any (·.1) = false := by rfl) :
    DS X W (.Expr (.Call (.Attribute o "append" apos) [e] [] cpos) pos) (tDrop (tBM X.K "list" rAppend to (tCons te tNil))) (fAppend fo fe) :=
  ⟨ps_expr (pe_bm PySem.F.plainAttrs_list PySem.F.slot_list_append PySem.F.type_list_append mt_append ho.pe (pa_cons he.pe pa_nil hst) hbase hfew hline hst hplain) hs, ev_append ho.ev he.ev⟩
end

/-! ### x[i] = e: an owned list, an owned dict, a cell -/
/-- a key's value anew, or a key more -/
def putKs {κ α : Type} [DecidableEq κ] (k : κ) (x : α) : List κ → List α → List κ × List α
  | j :: ks, y :: xs => if j = k then (j :: ks, x :: xs) else (j :: (putKs k x ks xs).1, y :: (putKs k x ks xs).2)
  | _, _ => ([k], [x])
def putNd (n : Nd) (xs : List SV) (k : D) (x : SV) : Option (Nd × List SV) := match n with
  | .lst => (intOf k).bind fun i => (ixN xs.length i).map fun j => (.lst, xs.set j x)
  | .dK ks => (k.key).bind fun k => if ks.length < 1000000 then some (.dK (putKs k x ks xs).1, (putKs k x ks xs).2) else none
  | .dT ks => match k with
    | .tup ds => (keysD ds).bind fun k => if ks.length < 1000000 then some (.dT (putKs k x ks xs).1, (putKs k x ks xs).2) else none
    | _ => none
  | _ => none
def storeAt (ro : R) (k : D) (x : SV) (S : Sto) : Option Sto := match ro.sv S with
  | some (.cell c) => match S.μ[c]? with
    | some (.node n xs) => (putNd n xs k x).map fun z => S.cellp c (.node z.1 z.2)
    | _ => none
  | some (.node n xs) => match ro with
    | .bor i p => (putNd n xs k x).bind fun z => S.putp i p (.node z.1 z.2)
    | .val _ => none
  | _ => none
def fStore (fo fi fe : FE) : FS := bindS fe fun re => bindS fo fun ro => bindS fi fun ri S => match re.kid S with
  | some (x, S1) => (ri.peek S1).bind fun k => (storeAt ro k x S1).map SO.nx
  | none => none
def rStore : V → V → V → Hp → (Hp → Prop) → Prop := fun o i v H Q => rSetL o i v H Q ∨ ∃ a H', o = .ref a ∧ DPut H a i v H' ∧ Q H'
theorem set_store {X : Cx} (hu : X.A.units + 1 < cLine) : PSet X rStore := by
  intro pins s σ H o i v ov iv u Q I ro ri rv h
  rcases h with h | ⟨a, H', rfl, dp, q⟩
  · exact set_list pins s σ H o i v ov iv u Q I ro ri rv h
  · cases ro
    exact d_setItem hu I dp ri rv fun s' I' => ⟨H', I', q⟩
theorem rss_set {K : PySem.W.Frag} {Φ H : Hp} {A : List Addr} {vs : List V} {xs : List SV} {U T : List Addr} {j : Nat} {v : V} {x : SV} (h : RSs K Φ H A vs xs U) (hj : j < xs.length) (q : RS K Φ H A v x T) (ndU : U.Nodup) (nd : ∀ b ∈ T, b ∉ U) (ndT : T.Nodup) :
    ∃ U', RSs K Φ H A (vs.set j v) (xs.set j x) U' ∧ (∀ b ∈ U', b ∈ U ∨ b ∈ T) ∧ U'.Nodup := by
  obtain ⟨w, E1, Ei, E2, e1, e2, q0, up⟩ := RSs.at h (List.getElem?_eq_getElem hj)
  subst e2
  refine ⟨E1 ++ (T ++ E2), up (Same.refl _) Pfx.refl (fun _ _ => rfl) (fun b hb => (h.there b (by simp only [List.mem_append] at hb ⊢; grind)).2) q, fun b hb => by simp only [List.mem_append] at hb ⊢; grind, ?_⟩
  simp only [List.nodup_append, List.mem_append] at ndU nd ⊢; grind
theorem putKs_keys {κ α β : Type} [DecidableEq κ] {k : κ} {x : α} {y : β} : ∀ {ks : List κ} {xs : List α} {ys : List β}, ks.length = xs.length → ks.length = ys.length → (putKs k x ks xs).1 = (putKs k y ks ys).1
  | [], [], [], _, _ => rfl
  | j :: ks, a :: xs, b :: ys, h1, h2 => by
    rw [putKs, putKs]
    by_cases e : j = k
    · rw [if_pos e, if_pos e]
    · rw [if_neg e, if_neg e, putKs_keys (ks := ks) (xs := xs) (ys := ys) (by simpa using h1) (by simpa using h2)]
  | [], _ :: _, _, h, _ => by simp at h
  | [], [], _ :: _, _, h => by simp at h
  | _ :: _, [], _, h, _ => by simp at h
  | _ :: _, _ :: _, [], _, h => by simp at h
theorem putKs_mem {κ α : Type} [DecidableEq κ] {k : κ} {x : α} : ∀ {ks : List κ} {xs : List α} {j : κ}, ks.length = xs.length → j ∈ (putKs k x ks xs).1 → j ∈ ks ∨ j = k
  | [], [], j, _, h => by simp [putKs] at h; exact .inr h
  | i :: ks, a :: xs, j, hl, h => by
    rw [putKs] at h
    by_cases e : i = k
    · rw [if_pos e] at h; exact .inl h
    · rw [if_neg e] at h
      rcases List.mem_cons.mp h with h | h
      · exact .inl (by simp [h])
      · exact (putKs_mem (by simpa using hl) h).imp_left (List.mem_cons_of_mem _)
  | [], _ :: _, _, h, _ => by simp at h
  | _ :: _, [], _, h, _ => by simp at h
theorem putKs_nodup {κ α : Type} [DecidableEq κ] {k : κ} {x : α} : ∀ {ks : List κ} {xs : List α}, ks.length = xs.length → ks.Nodup → (putKs k x ks xs).1.Nodup
  | [], [], _, _ => by simp [putKs]
  | i :: ks, a :: xs, hl, h => by
    rw [putKs]
    by_cases e : i = k
    · rw [if_pos e]; exact h
    · rw [if_neg e]
      refine List.nodup_cons.mpr ⟨fun hm => ?_, putKs_nodup (by simpa using hl) (List.nodup_cons.mp h).2⟩
      rcases putKs_mem (by simpa using hl) hm with hm | hm
      · exact (List.nodup_cons.mp h).1 hm
      · exact e hm
  | [], _ :: _, h, _ => by simp at h
  | _ :: _, [], h, _ => by simp at h
theorem putKs_len {κ α : Type} [DecidableEq κ] {k : κ} {x : α} : ∀ {ks : List κ} {xs : List α}, ks.length = xs.length → (putKs k x ks xs).1.length = (putKs k x ks xs).2.length
  | [], [], _ => rfl
  | i :: ks, a :: xs, hl => by
    rw [putKs]
    by_cases e : i = k
    · rw [if_pos e]; exact hl
    · rw [if_neg e]; exact congrArg (· + 1) (putKs_len (by simpa using hl))
  | [], _ :: _, h => by simp at h
  | _ :: _, [], h => by simp at h
theorem zip_none {κ : Type} [DecidableEq κ] {ks : List κ} {vs : List V} {k : κ} (h : k ∉ ks) : (ks.zip vs).map (fun kv => if kv.1 = k then (kv.1, (V.non : V)) else kv) = ks.zip vs := by
  conv => rhs; rw [← List.map_id (ks.zip vs)]
  apply List.map_congr_left
  intro p hp
  have : p.1 ∈ ks := (List.of_mem_zip hp).1
  rw [if_neg (fun z => h (by rw [← z]; exact this))]; rfl
theorem zip_put {κ : Type} [DecidableEq κ] {k : κ} {v : V} : ∀ {ks : List κ} {vs : List V}, ks.length = vs.length → ks.Nodup → putK (ks.zip vs) k v = (putKs k v ks vs).1.zip (putKs k v ks vs).2
  | [], [], _, _ => rfl
  | j :: ks, w :: vs, hl, nd => by
    have ih := zip_put (k := k) (v := v) (ks := ks) (vs := vs) (by simpa using hl) (List.nodup_cons.mp nd).2
    rw [List.zip_cons_cons, putKs]
    by_cases e : j = k
    · subst e
      rw [if_pos rfl, List.zip_cons_cons]
      unfold putK
      rw [if_pos (by simp), List.map_cons, if_pos rfl]
      congr 1
      conv => rhs; rw [← List.map_id (ks.zip vs)]
      apply List.map_congr_left
      intro p hp
      have : p.1 ∈ ks := (List.of_mem_zip hp).1
      rw [if_neg (fun z => (List.nodup_cons.mp nd).1 (by rw [← z]; exact this))]; rfl
    · rw [if_neg e, List.zip_cons_cons, ← ih]
      unfold putK
      have e1 : (((j, w) :: ks.zip vs).any fun kv => decide (kv.1 = k)) = (ks.zip vs).any fun kv => decide (kv.1 = k) := by simp [e]
      rw [e1]
      split
      · rw [List.map_cons, if_neg e]
      · rfl
  | [], _ :: _, h, _ => by simp at h
  | _ :: _, [], h, _ => by simp at h
/-- the values behind a put: one of them new -/
theorem rss_put {K : PySem.W.Frag} {Φ H : Hp} {A : List Addr} {κ : Type} [DecidableEq κ] {k : κ} {v : V} {x : SV} {T : List Addr} (q : RS K Φ H A v x T) (ndT : T.Nodup) : ∀ {ks : List κ} {vs : List V} {xs : List SV} {U : List Addr}, ks.length = vs.length → RSs K Φ H A vs xs U → U.Nodup → (∀ b ∈ T, b ∉ U) →
    ∃ U', RSs K Φ H A (putKs k v ks vs).2 (putKs k x ks xs).2 U' ∧ (∀ b ∈ U', b ∈ U ∨ b ∈ T) ∧ U'.Nodup := by
  intro ks
  induction ks with
  | nil =>
    intro vs xs U hl h ndU nd
    cases h with
    | nil => exact ⟨T ++ [], .cons q .nil, fun b hb => .inr (by simpa using hb), by simpa using ndT⟩
    | cons => simp at hl
  | cons j ks ih =>
    intro vs xs U hl h ndU nd
    cases h with
    | nil => simp at hl
    | cons r rs =>
      rename_i w vs y xs F0 G0
      rw [putKs, putKs]
      by_cases e : j = k
      · rw [if_pos e, if_pos e]
        refine ⟨T ++ G0, .cons q rs, fun b hb => by simp only [List.mem_append] at hb ⊢; grind, ?_⟩
        simp only [List.nodup_append, List.mem_append] at ndU nd ⊢; grind
      · rw [if_neg e, if_neg e]
        obtain ⟨U', r2, h2, n2⟩ := ih (by simpa using hl) rs (List.nodup_append.mp ndU).2.1 (fun b hb z => nd b hb (List.mem_append_right _ z))
        refine ⟨F0 ++ U', .cons r r2, fun b hb => ?_, ?_⟩
        · rcases List.mem_append.mp hb with hb | hb
          · exact .inl (List.mem_append_left _ hb)
          · exact (h2 b hb).imp_left (List.mem_append_right _)
        · simp only [List.nodup_append, List.mem_append] at ndU nd ⊢; grind
end L3

namespace L3
open PySem PySem.Spec PyProof.Rows L2

section
variable {K : PySem.W.Frag} {W : WX} {S S' : Sto} {σ : Sl} {H Φ : Hp} {A F G T Fx : List Addr} {v w iv : V}
theorem put_nd {a : Addr} {n n' : Nd} {vs : List V} {xs xs' : List SV} {x : SV} {kd : D} (ea : H a = some (n.ho vs)) (f : n.fits vs.length) (qs : RSs K Φ H A vs xs Fx) (ri : Rp K H iv kd) (q : RS K Φ H A v x T)
    (ndx : (a :: Fx).Nodup) (ndT : T.Nodup) (nd : ∀ b ∈ T, b ∉ a :: Fx) (e : putNd n xs kd x = some (n', xs')) :
    ∃ vs' U', (∀ Q : Hp → Prop, Q (upd H a (n'.ho vs')) → rStore (.ref a) iv v H Q) ∧ n'.fits vs'.length ∧ RSs K Φ (upd H a (n'.ho vs')) A vs' xs' U' ∧ (∀ b ∈ U', b ∈ Fx ∨ b ∈ T) ∧ U'.Nodup := by
  have nea : ∀ {ho : HO} (b : Addr), (b ∈ Fx ∨ b ∈ T) → upd H a ho b = H b := fun b hb => upd_ne fun z => by
    subst z
    rcases hb with hb | hb
    · exact (List.nodup_cons.mp ndx).1 hb
    · exact nd b hb (List.mem_cons_self ..)
  have fr : ∀ {ho : HO} {ys : List V} {zs : List SV} {U : List Addr}, RSs K Φ H A ys zs U → (∀ b ∈ U, b ∈ Fx ∨ b ∈ T) → RSs K Φ (upd H a ho) A ys zs U := fun r h => r.frame (Same.refl _) Pfx.refl (fun b hb => nea b (h b hb)) fun b hb => (r.there b hb).2
  cases n with
  | lst =>
    cases ei : intOf kd with
    | none => simp only [putNd, ei] at e; cases e
    | some i =>
      have := intOf_some ei
      subst this
      simp only [putNd, ei] at e
      cases ej : ixN xs.length i with
      | none => rw [Option.bind_some, ej] at e; cases e
      | some j =>
        rw [Option.bind_some, ej] at e; cases e
        have hj : j < xs.length := (ixN_seq ej).2.1
        obtain ⟨U', r1, h1, n1⟩ := rss_set qs hj q (List.nodup_cons.mp ndx).2 (fun b hb z => nd b hb (List.mem_cons_of_mem _ z)) ndT
        cases ri
        exact ⟨vs.set j v, U', fun Q z => .inl ⟨a, vs, i, j, rfl, rfl, ea, by rw [qs.length]; exact ej, z⟩, ⟨trivial, trivial⟩, fr r1 h1, h1, n1⟩
  | dK ks =>
    cases ek : kd.key with
    | none => simp only [putNd, ek] at e; cases e
    | some k =>
      simp only [putNd, ek, Option.bind_some] at e
      by_cases hl : ks.length < 1000000
      · rw [if_pos hl] at e; cases e
        have eiv := key_rp ri ek
        subst eiv
        have fl : ks.length = vs.length := f.1
        obtain ⟨U', r1, h1, n1⟩ := rss_put (k := k) q ndT fl qs (List.nodup_cons.mp ndx).2 (fun b hb z => nd b hb (List.mem_cons_of_mem _ z))
        have eks : (putKs k v ks vs).1 = (putKs k x ks xs).1 := putKs_keys fl (by rw [fl, qs.length])
        have eho : (Nd.dK (putKs k x ks xs).1).ho (putKs k v ks vs).2 = .dK (putK (ks.zip vs) k v) := by
          rw [zip_put fl f.2, ← eks]; rfl
        refine ⟨(putKs k v ks vs).2, U', fun Q z => .inr ⟨a, _, rfl, DPut.k ea ?_ , by rw [eho] at z; exact z⟩, ⟨?_, ?_⟩, fr r1 h1, h1, n1⟩
        · rw [List.length_zip, ← fl, Nat.min_self]; exact Nat.lt_of_lt_of_le hl (by rw [sizeLine_eq]; decide)
        · show (putKs k x ks xs).1.length = _
          rw [← eks]; exact putKs_len fl
        · show (putKs k x ks xs).1.Nodup
          rw [← eks]; exact putKs_nodup fl f.2
      · rw [if_neg hl] at e; cases e
  | dT ks =>
    cases kd <;> try (simp only [putNd] at e; cases e)
    rename_i ds
    cases ek : keysD ds with
    | none => simp only [putNd, ek] at e; cases e
    | some k =>
      simp only [putNd, ek, Option.bind_some] at e
      by_cases hl : ks.length < 1000000
      · rw [if_pos hl] at e; cases e
        cases ri with
        | @tup b ws _ sq rr =>
          have eiv := keys_rps rr ek
          subst eiv
          have fl : ks.length = vs.length := f.1
          obtain ⟨U', r1, h1, n1⟩ := rss_put (k := k) q ndT fl qs (List.nodup_cons.mp ndx).2 (fun b hb z => nd b hb (List.mem_cons_of_mem _ z))
          have eks : (putKs k v ks vs).1 = (putKs k x ks xs).1 := putKs_keys fl (by rw [fl, qs.length])
          have eho : (Nd.dT (putKs k x ks xs).1).ho (putKs k v ks vs).2 = .dT (putK (ks.zip vs) k v) := by
            rw [zip_put fl f.2, ← eks]; rfl
          refine ⟨(putKs k v ks vs).2, U', fun Q z => .inr ⟨a, _, rfl, .inr ⟨_, k, b, ea, rfl, sq, ?_, rfl⟩, by rw [eho] at z; exact z⟩, ⟨?_, ?_⟩, fr r1 h1, h1, n1⟩
          · rw [List.length_zip, ← fl, Nat.min_self]; exact Nat.lt_of_lt_of_le hl (by rw [sizeLine_eq]; decide)
          · show (putKs k x ks xs).1.length = _
            rw [← eks]; exact putKs_len fl
          · show (putKs k x ks xs).1.Nodup
            rw [← eks]; exact putKs_nodup fl f.2
      · rw [if_neg hl] at e; cases e
  | ins C dx ks => simp only [putNd] at e; cases e
theorem runS2 {t : TE} {f : FE} {k : R → FS} {out : SO} {D : Ends} {P : VK} (hf : EV K W t f) (st : Stands K S σ H Φ A F G) (h : bindS f k S = some out) (q : PostS K W F G H Φ A D out)
    (hk : ∀ r S1 v H1 Φ1 A1 T F1 G1, Step F G H Φ A (T ++ F1) G1 H1 Φ1 A1 → Stands K S1 σ H1 Φ1 A1 F1 G1 → RV K Φ1 H1 A1 S1 σ v r T → (T ++ (F1 ++ G1)).Nodup → Frz S S1 → PostS K W F1 G1 H1 Φ1 A1 D out → k r S1 = some out → P v H1) : t σ H P := by
  unfold bindS at h
  cases e : f S with
  | none => rw [e] at h; cases h
  | some o =>
    rw [e] at h
    cases o with
    | ok r S1 => exact hf S σ H Φ A F G st _ e P fun v H' Φ' A' T F' G' sp st' rv nd fz => hk r S1 v H' Φ' A' T F' G' sp st' rv nd fz (q.at sp.drop.run) h
    | exc x S1 => cases h; exact hf S σ H Φ A F G st _ e P (XS.xp q)
theorem RV.nd (h : RV K Φ H A S σ v r T) (nd : (T ++ (F ++ G)).Nodup) {F1 G1 H1 Φ1 A1 U} (sp : Step F G H Φ A (U ++ F1) G1 H1 Φ1 A1) (nd1 : (U ++ (F1 ++ G1)).Nodup) : (T ++ (U ++ (F1 ++ G1))).Nodup := by
  have := sp.apart (fun b hb => (h.there b hb).1) nd (by rw [List.append_assoc]; exact nd1)
  simpa [List.append_assoc] using this
theorem nd_mid {T U V : List Addr} (h : (T ++ (U ++ V)).Nodup) : (T ++ V).Nodup := by
  simp only [List.nodup_append, List.mem_append] at h ⊢; grind
theorem ev_store {to ti te : TE} {fo fi fe : FE} (ho : EV K W to fo) (hi : EV K W ti fi) (he : EV K W te fe) : SEV K W (tAsg te (gSub to ti rStore)) (fStore fo fi fe) := fun S σ H Φ A F G st out h D q => by
  refine runS2 (t := te) he st h q fun re S1 v H1 Φ1 A1 T F1 G1 sp1 st1 rv1 nd1 fz1 q1 h1 => ?_
  refine runS2 (t := to) ho st1 h1 q1 fun ro S2 o H2 Φ2 A2 U F2 G2 sp2 st2 rv2 nd2 fz2 q2 h2 => ?_
  refine runS2 (t := ti) hi st2 h2 q2 fun ri S3 i H3 Φ3 A3 Y F3 G3 sp3 st3 rv3 nd3 fz3 q3 h3 => ?_
  have rv1' := (rv1.step st1 nd1 sp2.drop fz2).step st2 (nd_mid (rv1.nd nd1 sp2 nd2)) sp3.drop fz3
  have nd1' := nd_mid ((rv1.step st1 nd1 sp2.drop fz2).nd (nd_mid (rv1.nd nd1 sp2 nd2)) sp3 nd3)
  have rv2' := rv2.step st2 nd2 sp3.drop fz3
  have nd2' := nd_mid (rv2.nd nd2 sp3 nd3)
  cases ek : re.kid S3 with
  | none => rw [ek] at h3; cases h3
  | some z =>
    obtain ⟨x, S4⟩ := z
    rw [ek] at h3
    dsimp only at h3
    obtain ⟨Φ4, F4, sp4, st4, rs4, fz4⟩ := kid_ok st3 rv1' nd1' ek
    have nd4 := sp4.apart (fun b hb => (rv1'.there b hb).1) nd1' st4.nd
    have ro4 := rv2'.step st3 nd2' sp4 fz4
    have ri4 := rv3.step st3 nd3 sp4 fz4
    cases ei : ri.peek S4 with
    | none => rw [ei] at h3; cases h3
    | some kd =>
      rw [ei, Option.bind_some] at h3
      have rpi := ri4.rp st4 ei
      have q4 := q3.at sp4.run
      cases es : storeAt ro kd x S4 with
      | none => rw [es] at h3; cases h3
      | some S5 =>
        rw [es] at h3; cases h3
        unfold storeAt at es
        cases ex : ro.sv S4 with
        | none => rw [ex] at es; cases es
        | some y =>
          rw [ex] at es
          cases y with
          | dat d => cases es
          | cell c =>
            dsimp only at es
            obtain ⟨U2, rs2, _⟩ := ro4.rs st4 ex
            cases eμ : S4.μ[c]? with
            | none => rw [eμ] at es; cases es
            | some z =>
              rw [eμ] at es
              cases z with
              | dat d => cases es
              | cell c => cases es
              | node n xs =>
                dsimp only at es
                cases ep : putNd n xs kd x with
                | none => rw [ep] at es; cases es
                | some z =>
                  obtain ⟨n', xs'⟩ := z
                  rw [ep] at es; cases es
                  obtain ⟨a, vs, Fx, rfl, ea, f, qs, hF, ndx, up⟩ := mut_cell st4 eμ rs2
                  have ndT := (List.nodup_append.mp nd4).1
                  obtain ⟨vs', U', hs, f', r', hU, ndU⟩ := put_nd ea f qs rpi rs4 ndx ndT (fun b hb z => (List.nodup_append.mp nd4).2.2 b hb b (List.mem_append_right _ (hF b z)) rfl) ep
                  obtain ⟨G', st5, rn5⟩ := up nd4 (fun b hb => (rs4.there b hb).1) f' r' hU ndU
                  refine hs _ (q _ _ _ _ _ _ ?_ st5)
                  have s14 : Step F1 G1 H1 Φ1 A1 F4 G3 H3 Φ4 A3 := (sp2.drop.trans0 sp3.drop).trans0 sp4
                  have s04 : Step F G H Φ A (T ++ F4) G3 H3 Φ4 A3 := Step.trans (T1 := []) sp1 s14
                  exact s04.run.trans rn5
          | node n xs =>
            cases ro with
            | val z => cases es
            | bor j p =>
              dsimp only at es
              cases ep : putNd n xs kd x with
              | none => rw [ep] at es; cases es
              | some z =>
                obtain ⟨n', xs'⟩ := z
                rw [ep, Option.bind_some] at es
                obtain ⟨a, vs, Fx, rfl, ea, f, qs, hF, ndx, up⟩ := mut_slot st4 ex ro4
                have ndT := (List.nodup_append.mp nd4).1
                obtain ⟨vs', U', hs, f', r', hU, ndU⟩ := put_nd ea f qs rpi rs4 ndx ndT (fun b hb z => (List.nodup_append.mp nd4).2.2 b hb b (List.mem_append_left _ (hF b z)) rfl) ep
                obtain ⟨F', st5, rn5⟩ := up nd4 (fun b hb => (rs4.there b hb).1) f' r' hU ndU es
                refine hs _ (q _ _ _ _ _ _ ?_ st5)
                have s14 : Step F1 G1 H1 Φ1 A1 F4 G3 H3 Φ4 A3 := (sp2.drop.trans0 sp3.drop).trans0 sp4
                have s04 : Step F G H Φ A (T ++ F4) G3 H3 Φ4 A3 := Step.trans (T1 := []) sp1 s14
                exact s04.run.trans rn5
end
section
variable {X : Cx} {W : WX} {o i e : Expr} {pos apos : Pos} {to ti te : TE} {fo fi fe : FE}
theorem ds_store (hu : X.A.units + 1 < cLine) (he : DE X W e te fe) (ho : DE X W o to fo) (hi : DE X W i ti fi) (hs : swapsWithSole [.Subscript o i apos] e pos.line X.env = pure false := by rfl) (hw : swappedStores [.Subscript o i apos] e X.env = pure none := by rfl)
    (h1 : (assignEach [.Subscript o i apos] X.env).map (·.2) = [assign (.Subscript o i apos) X.env] := by rfl)
    (ha : ∀ v, assign (.Subscript o i apos) X.env v = (do
      let ov ← holding [v] (eval o X.env)
      let iv ← holding [v, ov] (eval i X.env)
      standAt apos
      holding [v, ov, iv] (setItem ov iv v)
      release [v, ov, iv] []) := by intro _; rfl) :
    DS X W (.Assign [.Subscript o i apos] e pos) (tAsg te (gSub to ti rStore)) (fStore fo fi fe) :=
  ⟨ps_asg he.pe (pg_sub ho.pe hi.pe (set_store hu) ha) hs hw h1, ev_store ho.ev hi.ev he.ev⟩
end
end L3

namespace L3
open PySem PySem.Spec PyProof.Rows L2

/-! ### {k: v, ..} -/
def fPairs : List (FE × FE) → Sto → Option (Out (List (Key × R)))
  | [] => retE []
  | (fk, fv) :: r => bindE fk fun rk S1 => match (rk.peek S1).bind D.key with
    | some k => bindE fv (fun rv => bindE (fPairs r) fun ps => retE ((k, rv) :: ps)) S1
    | none => none
def PostP (K : PySem.W.Frag) (W : WX) (S : Sto) (σ : Sl) (H Φ : Hp) (A F G : List Addr) (Q : List (V × V) → Hp → Prop) : Out (List (Key × R)) → Prop
  | .ok kr S' => ∀ ps H' Φ' A' T F' G', Step F G H Φ A (T ++ F') G' H' Φ' A' → Stands K S' σ H' Φ' A' F' G' → ps.map (·.1) = kr.map (fun x => kV x.1) → RVs K Φ' H' A' S' σ (ps.map (·.2)) (kr.map (·.2)) T → (T ++ (F' ++ G')).Nodup → Frz S S' → Q ps H'
  | .exc e S' => XP K W S σ H Φ A F G e S'
inductive EVPs (K : PySem.W.Frag) (W : WX) : List (TE × TE) → List (FE × FE) → Prop
  | nil : EVPs K W [] []
  | cons {tk tv : TE} {fk fv : FE} {r : List (TE × TE)} {q : List (FE × FE)} : EV K W tk fk → EV K W tv fv → EVPs K W r q → EVPs K W ((tk, tv) :: r) ((fk, fv) :: q)
section
variable {K : PySem.W.Frag} {W : WX}
theorem EVPs.go {trs : List (TE × TE)} {fps : List (FE × FE)} (h : EVPs K W trs fps) : ∀ {S : Sto} {σ : Sl} {H Φ : Hp} {A F G : List Addr}, Stands K S σ H Φ A F G → ∀ {out}, fPairs fps S = some out → ∀ {Q}, PostP K W S σ H Φ A F G Q out → tPairs trs σ H Q := by
  induction h with
  | nil =>
    intro S σ H Φ A F G st out e Q q
    cases e
    exact q [] H Φ A [] F G .refl st rfl .nil (by simpa using st.nd) .refl
  | @cons tk tv fk fv r qq hk hv hr ih =>
    intro S σ H Φ A F G st out e Q q
    have qx : ∀ e S', out = .exc e S' → XP K W S σ H Φ A F G e S' := fun e S' eo => by subst eo; exact q
    refine run1 (t := tk) hk st e qx fun rk S1 x H1 Φ1 A1 T F1 G1 sp st1 rv nd fz h1 => ?_
    cases ek : (rk.peek S1).bind D.key with
    | none => rw [ek] at h1; cases h1
    | some k =>
      rw [ek] at h1
      obtain ⟨d, e1, e2⟩ : ∃ d, rk.peek S1 = some d ∧ d.key = some k := by
        cases e0 : rk.peek S1 with
        | none => rw [e0] at ek; cases ek
        | some d => exact ⟨d, rfl, by rw [e0] at ek; exact ek⟩
      have ex := key_rp (rv.rp st1 e1) e2
      subst ex
      dsimp only at h1
      refine run1 (t := tv) hv st1 h1 (fun e S' eo => (qx e S' eo).at sp fz) fun rw S2 y H2 Φ2 A2 U F2 G2 sp2 st2 rv2 nd2 fz2 h2 => ?_
      unfold bindE at h2
      have sp02 : Step F G H Φ A (U ++ F2) G2 H2 Φ2 A2 := Step.trans (T := []) sp.drop sp2
      cases e3 : fPairs qq S2 with
      | none => rw [e3] at h2; cases h2
      | some o =>
        rw [e3] at h2
        cases o with
        | exc x S3 => cases h2; exact ih st2 e3 ((qx x S3 rfl).at sp02 (fz.trans fz2))
        | ok ps S3 =>
          cases h2
          refine ih st2 e3 fun pv H3 Φ3 A3 Y F3 G3 sp3 st3 ek rvs nd3 fz3 => ?_
          have rv2' := rv2.step st2 nd2 sp3.drop fz3
          have nd4 := rv2.nd nd2 sp3 nd3
          exact q ((kV k, y) :: pv) H3 Φ3 A3 (U ++ Y) F3 G3 (by rw [List.append_assoc]; exact sp02.trans sp3) st3 (by rw [List.map_cons, List.map_cons, ek]) (.cons rv2' rvs) (by simpa [List.append_assoc] using nd4) ((fz.trans fz2).trans fz3)
def fDisp (fps : List (FE × FE)) : FE := bindE (fPairs fps) fun kr S => if (kr.map (·.1)).Nodup ∧ kr.length ≤ 15 then (kids (kr.map (·.2)) S).map fun z => .ok (.val (.node (.dK (kr.map (·.1))) z.1)) z.2 else none
theorem merge_nodup : ∀ {more kvs : List (Key × V)}, ((kvs ++ more).map (·.1)).Nodup → mergeK kvs more = kvs ++ more
  | [], kvs, _ => by rw [List.append_nil]; rfl
  | p :: r, kvs, h => by
    have e : putK kvs p.1 p.2 = kvs ++ [p] := by
      unfold putK
      rw [if_neg]
      intro z
      obtain ⟨q, hq, e⟩ := List.any_eq_true.mp z
      have e : q.1 = p.1 := by simpa using e
      rw [List.map_append] at h
      exact (List.nodup_append.mp h).2.2 q.1 (List.mem_map_of_mem hq) p.1 (List.mem_map_of_mem (List.mem_cons_self ..)) e
    show mergeK (putK kvs p.1 p.2) r = _
    rw [e, merge_nodup (by simpa using h)]
    simp
/-- a new node of its own -/
theorem new_node {S : Sto} {σ : Sl} {H Φ : Hp} {A F G : List Addr} {p : Addr} {n : Nd} {vs : List V} {xs : List SV} {U : List Addr} (st : Stands K S σ H Φ A F G) (q : RSs K Φ H A vs xs U) (nd : (U ++ (F ++ G)).Nodup) (hp : ∀ b ∈ U ++ (F ++ G), b ≠ p) (hΦ : Φ p = none) (fit : n.fits vs.length) :
    Stands K S σ (upd H p (n.ho vs)) Φ A F G ∧ RS K Φ (upd H p (n.ho vs)) A (.ref p) (.node n xs) (p :: U) ∧ ((p :: U) ++ (F ++ G)).Nodup := by
  have same : ∀ b ∈ U ++ (F ++ G), upd H p (n.ho vs) b = H b := fun b hb => upd_ne (hp b hb)
  refine ⟨⟨fun b o e => ?_, st.ro.frame (Same.refl _) Pfx.refl (fun b hb => same b (by simp [hb])) (fun b hb => (st.ro.there b hb).2), st.rc.frame (Same.refl _) Pfx.refl (fun b hb => same b (by simp [hb])) (fun b hb => (st.rc.there b hb).2), st.nd⟩,
    .node upd_same fit hΦ (q.frame (Same.refl _) Pfx.refl (fun b hb => same b (by simp [hb])) fun b hb => (q.there b hb).2), ?_⟩
  · rw [upd_ne (fun z => by subst z; rw [hΦ] at e; cases e)]; exact st.le _ _ e
  · rw [List.cons_append]
    exact List.nodup_cons.mpr ⟨fun hb => hp p hb rfl, nd⟩
theorem ev_disp {trs : List (TE × TE)} {fps : List (FE × FE)} (h : EVPs K W trs fps) : EV K W (tDisp trs) (fDisp fps) := fun S σ H Φ A F G st out ho Q q => by
  intro p hp
  have hΦ : Φ p = none := by
    cases e : Φ p with
    | none => rfl
    | some o => have := st.le _ _ e; rw [hp] at this; cases this
  have no : ∀ b ∈ F ++ G, b ≠ p := fun b hb z => by
    subst z
    rcases List.mem_append.mp hb with hb | hb
    · exact (st.ro.there b hb).1 hp
    · exact (st.rc.there b hb).1 hp
  obtain ⟨st1, _, _⟩ := new_node (n := .dK []) (vs := []) (xs := []) st .nil (by simpa using st.nd) (by simpa using no) hΦ ⟨rfl, List.nodup_nil⟩
  have st1 : Stands K S σ (upd H p (.dK [])) Φ A F G := st1
  have sp1 : Step F G H Φ A F G (upd H p (.dK [])) Φ A := ⟨fun b o e _ => upd_same' hp _ _ e, fun _ _ e => e, fun _ _ e => .inl e, fun _ h => .inl h, fun _ h => .inl h, fun b hb => by
    by_cases e : b = p
    · subst e; rw [upd_same]; simp
    · rw [upd_ne e]; exact hb, Pfx.refl⟩
  unfold fDisp bindE at ho
  cases e1 : fPairs fps S with
  | none => rw [e1] at ho; cases ho
  | some o =>
    rw [e1] at ho
    cases o with
    | exc x S1 => cases ho; exact h.go st1 e1 (XP.at (T := []) (q.x x S1 rfl) sp1 .refl)
    | ok kr S1 =>
      refine h.go st1 e1 fun ps H2 Φ2 A2 T F2 G2 sp2 st2 eks rvs nd2 fz2 => ?_
      dsimp only at ho
      by_cases hc : (kr.map (·.1)).Nodup ∧ kr.length ≤ 15
      · rw [if_pos hc] at ho
        cases e3 : kids (kr.map (·.2)) S1 with
        | none => rw [e3] at ho; cases ho
        | some z =>
          obtain ⟨xs, S3⟩ := z
          rw [e3] at ho; cases ho
          obtain ⟨Φ3, F3, sp3, st3, rs3, fz3⟩ := kids_ok st2 rvs nd2 e3
          have hpG : p ∉ G := fun hb => no p (List.mem_append_right _ hb) rfl
          have hpF : p ∉ F := fun hb => no p (List.mem_append_left _ hb) rfl
          have hp2 : H2 p = some (.dK []) := sp2.keep p _ upd_same hpG
          have s13 : Step F G (upd H p (.dK [])) Φ A (T ++ F3) G2 H2 Φ3 A2 := Step.trans (T1 := []) sp2 sp3
          have pown : p ∉ (T ++ F3) ∧ p ∉ G2 := by
            refine ⟨fun hb => ?_, fun hb => ?_⟩
            · rcases s13.ownF p hb with h | h | h
              · exact hpF h
              · exact hpG h
              · rw [upd_same] at h; cases h
            · rcases s13.ownG p hb with h | h
              · exact hpG h
              · rw [upd_same] at h; cases h
          have hΦ3 : Φ3 p = none := by
            cases e : Φ3 p with
            | none => rfl
            | some o =>
              rcases s13.grow p o e with h | h | h | h
              · rw [hΦ] at h; cases h
              · exact absurd h hpF
              · exact absurd h hpG
              · rw [upd_same] at h; cases h
          have nd3 : (T ++ (F3 ++ G2)).Nodup := sp3.apart (fun b hb => (rvs.there b hb).1) nd2 st3.nd
          have lk : kr.length = (ps.map (·.2)).length := by
            have := congrArg List.length eks
            simpa using this.symm
          have fit : (Nd.dK (kr.map (·.1))).fits (ps.map (·.2)).length := ⟨by show (kr.map (·.1)).length = _; rw [List.length_map]; exact lk, hc.1⟩
          obtain ⟨st4, r4, nd4⟩ := new_node (n := .dK (kr.map (·.1))) st3 rs3 nd3 (fun b hb z => by
            subst z
            simp only [List.mem_append] at hb pown; grind) hΦ3 fit
          have eps : ps = ((kr.map (·.1)).zip (ps.map (·.2))).map (fun kv => (kV kv.1, kv.2)) := by
            have e1 : ∀ {ps : List (V × V)} {kr : List (Key × R)}, ps.map (·.1) = kr.map (fun x => kV x.1) → ps = ((kr.map (·.1)).zip (ps.map (·.2))).map (fun kv => (kV kv.1, kv.2)) := by
              intro ps
              induction ps with
              | nil => intro kr e; cases kr with
                | nil => rfl
                | cons => cases e
              | cons p ps ih =>
                intro kr e
                cases kr with
                | nil => cases e
                | cons z kr =>
                  rw [List.map_cons, List.map_cons, List.cons.injEq] at e
                  rw [List.map_cons, List.map_cons, List.zip_cons_cons, List.map_cons, ← e.1, ← ih e.2]
            exact e1 eks
          have lz : ((kr.map (·.1)).zip (ps.map (·.2))).length = kr.length := by rw [List.length_zip, List.length_map, ← lk, Nat.min_self]
          refine ⟨hp2, (kr.map (·.1)).zip (ps.map (·.2)), eps, by rw [lz]; exact hc.2, ?_⟩
          have em : mergeK [] ((kr.map (·.1)).zip (ps.map (·.2))) = (kr.map (·.1)).zip (ps.map (·.2)) := by
            rw [merge_nodup]
            · rfl
            · rw [List.nil_append, List.map_fst_zip (by rw [List.length_map, lk]; exact Nat.le_refl _)]; exact hc.1
          rw [em]
          have s03 : Step F G H Φ A (T ++ F3) G2 H2 Φ3 A2 := sp1.trans0 s13
          refine q (.ref p) _ Φ3 A2 (p :: T) F3 G2 ⟨fun b o e hn => ?_, s03.le, s03.grow, fun b hb => ?_, s03.ownG, fun b hb => ?_, s03.cells⟩ st4 r4 nd4 (fz2.trans fz3)
          · have hb : b ≠ p := fun z => by subst z; rw [hp] at e; cases e
            rw [upd_ne hb]; exact s03.keep b o e hn
          · rcases List.mem_append.mp hb with hb | hb
            · rcases List.mem_cons.mp hb with rfl | hb
              · exact .inr (.inr hp)
              · exact s03.ownF b (List.mem_append_left _ hb)
            · exact s03.ownF b (List.mem_append_right _ hb)
          · by_cases e : b = p
            · subst e; rw [upd_same]; simp
            · rw [upd_ne e]; exact s03.live b hb
      · rw [if_neg hc] at ho; cases ho
end
structure DPs (X : Cx) (W : WX) (pos : Pos) (keys : List (Option Expr)) (values : List Expr) (trs : List (TE × TE)) (fps : List (FE × FE)) : Prop where
  pps : PPs X pos keys values trs
  ev : EVPs X.K W trs fps
section
variable {X : Cx} {W : WX} {pos : Pos}
theorem dp_nil : DPs X W pos [] [] [] [] := ⟨pps_nil, .nil⟩
theorem dp_cons {k v : Expr} {ks : List (Option Expr)} {vs : List Expr} {tk tv : TE} {trs : List (TE × TE)} {fk fv : FE} {fps : List (FE × FE)} (hk : DE X W k tk fk) (hv : DE X W v tv fv) (hr : DPs X W pos ks vs trs fps) :
    DPs X W pos (some k :: ks) (v :: vs) ((tk, tv) :: trs) ((fk, fv) :: fps) := ⟨pps_cons hk.pe hv.pe hr.pps, .cons hk.ev hv.ev hr.ev⟩
theorem de_disp {keys : List (Option Expr)} {values : List Expr} {trs : List (TE × TE)} {fps : List (FE × FE)} (h : DPs X W pos keys values trs fps) (hall : keys.all (·.isSome) = true := by rfl) (hl : keys.length = values.length := by rfl) (h0 : keys ≠ [] := by exact fun z => nomatch z)
    (h15 : keys.length ≤ 15 := by decide) : DE X W (.Dict keys values pos) (tDisp trs) (fDisp fps) := ⟨pe_disp h.pps hall hl h0 h15, ev_disp h.ev⟩
/-- {} with keys ints and texts -/
def fDNew (n : Nd) : FE := fun S => some (.ok (.val (.node n [])) S)
theorem ev_dnew {K : PySem.W.Frag} {n : Nd} (hf : n.fits 0) : EV K W (fun _ H Q => ∀ p, H p = none → Q (.ref p) (upd H p (n.ho []))) (fDNew n) := fun S σ H Φ A F G st out ho Q q => by
  cases ho
  intro p hp
  have hΦ : Φ p = none := by
    cases e : Φ p with
    | none => rfl
    | some o => have := st.le _ _ e; rw [hp] at this; cases this
  have no : ∀ b ∈ F ++ G, b ≠ p := fun b hb z => by
    subst z
    rcases List.mem_append.mp hb with hb | hb
    · exact (st.ro.there b hb).1 hp
    · exact (st.rc.there b hb).1 hp
  obtain ⟨st1, r1, nd1⟩ := new_node (n := n) (vs := []) (xs := []) st .nil (by simpa using st.nd) (by simpa using no) hΦ hf
  refine q (.ref p) _ Φ A [p] F G ⟨fun b o e _ => upd_same' hp _ _ e, fun _ _ e => e, fun _ _ e => .inl e, fun b hb => ?_, fun _ h => .inl h, fun b hb => ?_, Pfx.refl⟩ st1 r1 nd1 .refl
  · rcases List.mem_append.mp hb with hb | hb
    · have := List.mem_singleton.mp hb; subst this; exact .inr (.inr hp)
    · exact .inl hb
  · by_cases e : b = p
    · subst e; rw [upd_same]; simp
    · rw [upd_ne e]; exact hb
theorem de_dnewK : DE X W (.Dict [] [] pos) tDNewK (fDNew (.dK [])) := ⟨pe_dnewK, fun S σ H Φ A F G st out ho Q q => ev_dnew (n := .dK []) ⟨rfl, List.nodup_nil⟩ S σ H Φ A F G st out ho Q q⟩
theorem de_dnewT : DE X W (.Dict [] [] pos) tDNewT (fDNew (.dT [])) := ⟨pe_dnewT, fun S σ H Φ A F G st out ho Q q => ev_dnew (n := .dT []) ⟨rfl, List.nodup_nil⟩ S σ H Φ A F G st out ho Q q⟩
end
/-! ### name = value, the value a cell from here on -/
def fSetC (i : Nat) (fe : FE) : FS := bindS fe fun r S => match r with
  | .val (.node n xs) => (({ S with μ := S.μ ++ [.node n xs] } : Sto).put i (.cell S.μ.length)).map SO.nx
  | _ => none
section
variable {X : Cx} {W : WX} {e : Expr} {pos : Pos} {te : TE} {fe : FE}
theorem ev_setC {K : PySem.W.Frag} {i : Nat} (h : EV K W te fe) : SEV K W (tAsg te (gName i)) (fSetC i fe) := fun S σ H Φ A F G st out ho D q => by
  refine runS2 (t := te) h st ho q fun r S1 v H1 Φ1 A1 T F1 G1 sp st1 rv nd fz q1 h1 => ?_
  cases r with
  | bor j p => cases h1
  | val x =>
    cases x with
    | dat d => cases h1
    | cell c => cases h1
    | node n xs =>
      have rv : RS K Φ1 H1 A1 v (.node n xs) T := rv
      cases rv with
      | @node a _ vs _ U ea f pa qs =>
        have rs : RS K Φ1 H1 A1 (.ref a) (.node n xs) (a :: U) := .node ea f pa qs
        have pfx : Pfx A1 (A1 ++ [a]) := fun k x e => by rw [List.getElem?_append_left (List.getElem?_eq_some_iff.mp e).1]; exact e
        have la : A1.length = S1.μ.length := st1.rc.length
        have rc' := RC.snoc (rs.frame (Same.refl _) pfx (fun _ _ => rfl) fun b hb => (rs.there b hb).2) (st1.rc.frame (Same.refl _) pfx (fun _ _ => rfl) fun b hb => (st1.rc.there b hb).2)
        have ro' := st1.ro.frame (Same.refl _) pfx (fun _ _ => rfl) fun b hb => (st1.ro.there b hb).2
        have nd' : (F1 ++ (G1 ++ (a :: U))).Nodup := by
          simp only [List.nodup_append, List.mem_append] at nd ⊢; grind
        have st2 : Stands K { S1 with μ := S1.μ ++ [.node n xs] } σ H1 Φ1 (A1 ++ [a]) F1 (G1 ++ (a :: U)) := ⟨st1.le, ro', rc', nd'⟩
        have h1 : (({ S1 with μ := S1.μ ++ [.node n xs] } : Sto).put i (.cell S1.μ.length)).map SO.nx = some out := h1
        unfold Sto.put at h1
        by_cases hi : i < S1.ρ.length
        · have h1 : some (SO.nx { ρ := S1.ρ.set i (some (.cell S1.μ.length)), μ := S1.μ ++ [.node n xs] }) = some out := by rw [← h1, if_pos hi]; rfl
          cases h1
          obtain ⟨F3, st3, hF⟩ := st2.set (v := .ref a) (x := .cell S1.μ.length) (T := []) (.cell (by rw [← la, List.getElem?_append_right (Nat.le_refl _)]; simp)) (by simpa using nd') hi
          refine q _ H1 Φ1 (A1 ++ [a]) F3 (G1 ++ (a :: U)) ?_ st3
          have rn := sp.run
          refine ⟨rn.keep, rn.le, rn.grow, fun b hb => ?_, rn.live, rn.cells.trans pfx⟩
          rcases hb with hb | hb
          · rcases hF b hb with h | h
            · simp at h
            · exact rn.own b (.inl (List.mem_append_right _ h))
          · rcases List.mem_append.mp hb with hb | hb
            · exact rn.own b (.inr hb)
            · exact rn.own b (.inl (List.mem_append_left _ hb))
        · rw [if_neg hi] at h1; cases h1
theorem ds_setC {x : Str} {pos' : Pos} {i : Nat} (hN : X.N.Nodup) (h : DE X W e te fe) (hi : X.N[i]? = some x := by rfl) (hx : Loc X.env.scope x := by first | exact Or.inl rfl | exact Or.inr rfl) (hs : swapsWith e (some (.Name x pos')) pos.line X.env = pure false := by rfl)
    (hf : X.fn x = true ∨ X.env.scope.names.lookup x = some .local := by first | exact .inl rfl | exact .inr rfl) : DS X W (.Assign [.Name x pos'] e pos) (tAsg te (gName i)) (fSetC i fe) := ⟨ps_set hN hi hx h.pe hs hf, ev_setC h.ev⟩
end
end L3

namespace L3
open PySem PySem.Spec PyProof.Rows L2

section
variable {X : Cx} {W : WX} {a b e o : Expr} {pos apos : Pos} {ta tb te to : TE} {fa fb fe fo : FE}
/-! ### frozen from here on -/
def fFrz (f : FE) : FE := bindE f fun r S => (r.esc S).map fun z => .ok (.d z.1) z.2
theorem ev_frz {K : PySem.W.Frag} (h : EV K W te fe) : EV K W te (fFrz fe) := fun S σ H Φ A F G st out ho Q q => by
  refine run1 (t := te) h st ho q.x fun r S1 v H1 Φ1 A1 T F1 G1 sp st1 rv nd fz h1 => ?_
  cases e1 : r.esc S1 with
  | none => rw [e1] at h1; cases h1
  | some z =>
    obtain ⟨d, S2⟩ := z
    rw [e1] at h1; cases h1
    obtain ⟨Φ2, F2, sp2, st2, rp2, fz2⟩ := esc_ok st1 rv nd e1
    exact q v H1 Φ2 A1 [] F2 G1 (sp.trans0 sp2) st2 (RS.dat rp2) (by simpa using st2.nd) (fz.trans fz2)
theorem de_frz (h : DE X W e te fe) : DE X W e te (fFrz fe) := ⟨h.pe, ev_frz h.ev⟩
theorem ds_setCompF {elt tge iter : Expr} {ifs : List Expr} {scope : Scope} {own : List (Str × Nat)} {spos py : Pos} {wi : TI} {g : TG} {tg : Tg} {fi : FI} {ft : FT} {y : Str} {i : Nat} (hc : X.calm = true) (hN : X.N.Nodup) (hi : DI X W tge iter wi fi) (ok : BlkOk X.N X.env.scope scope own)
    (hg : ∀ (s : Shared) (H : Hp) (C : Addr) (cl : List (Str × Addr)) (fp : List Addr), DG (X.blk s H scope (compEnvC scope cl C X.env) fp) tge g tg)
    (ht : ∀ (s : Shared) (H : Hp) (C : Addr) (cl : List (Str × Addr)) (fp : List Addr), ∃ tt, DTs (X.blk s H scope (compEnvC scope cl C X.env) fp) W0 ifs tt ft)
    (he : ∀ (s : Shared) (H : Hp) (C : Addr) (cl : List (Str × Addr)) (fp : List Addr), ∃ te, DE (X.blk s H scope (compEnvC scope cl C X.env) fp) W0 elt te fe)
    (hy : X.N[i]? = some y := by rfl) (hyl : X.env.scope.names.lookup y = some .local := by rfl)
    (hsw : swapsWith (.ListComp elt [⟨tge, iter, ifs, 0⟩] scope pos) (some (.Name y py)) spos.line X.env = pure true := by rfl)
    (hv : ∀ i ∈ tg.sl, i ∈ own.map (·.2) := by decide) (hs : ∀ x, foldedSetIterable iter X.env x = pure x := by intro _; rfl) :
    DS X W (.Assign [.Name y py] (.ListComp elt [⟨tge, iter, ifs, 0⟩] scope pos) spos) (tAsg (tLc wi g (tOfT X.K W0 ft) (tOf X.K W0 fe) (own.map (·.2))) (gName i)) (fSet i (fFrz (fComp tg fi ft fe (own.map (·.2))))) :=
  ⟨(ds_setComp hc hN hi ok hg ht he hy hyl hsw hv hs).ps, ev_set (ev_frz (ev_comp hi.ev (hg X.s_0 X.H_0 0 [] []).ev ev_tOfT ev_tOf hv))⟩
/-! ### numbers -/
theorem og_mulI' {K : PySem.W.Frag} : OpG K (rI CMul fun i j => .int (i * j)) (g2 (dI iMul)) := og_mulI
theorem de_mulI (ha : DE X W a ta fa) (hb : DE X W b tb fb) : DE X W (.BinOp a .Mult b pos) (tOp (rI CMul fun i j => .int (i * j)) ta tb) (fBin (g2 (dI iMul)) fa fb) := de_bin op_mul og_mulI ha hb
def negD : D → Option D
  | .int i => some (.int (-i))
  | _ => none
def fNeg (f : FE) : FE := bindE f fun r S => ((r.peek S).bind negD).map fun d => .ok (.d d) S
theorem de_neg (ha : DE X W a ta fa) : DE X W (.UnaryOp .USub a pos) (tUn (rU fun i => .int (-i)) ta) (fNeg fa) := ⟨pe_un un_neg ha.pe, fun S σ H Φ A F G st out ho Q q => by
  refine run1 (t := ta) ha.ev st ho q.x fun r S1 v H1 Φ1 A1 T F1 G1 sp st1 rv nd fz h1 => ?_
  cases e1 : r.peek S1 with
  | none => rw [e1] at h1; cases h1
  | some d =>
    rw [e1] at h1
    have rp := rv.rp st1 e1
    cases d <;> try cases h1
    rename_i i
    cases rp
    exact ⟨i, rfl, q _ H1 Φ1 A1 [] F1 G1 sp.drop st1 (RS.dat (.int _)) (by simpa using st1.nd) fz⟩⟩
/-! ### the order: numbers, texts -/
def dLt : D → D → Option D
  | .int i, .int j => some (.bl (decide (i < j)))
  | .str x, .str y => some (.bl (decide (x.cps.toList < y.cps.toList)))
  | _, _ => none
def dLe : D → D → Option D
  | .int i, .int j => some (.bl (decide (i ≤ j)))
  | .str x, .str y => some (.bl (!decide (y.cps.toList < x.cps.toList)))
  | _, _ => none
def rOrd (f : Int → Int → V) (g : Str → Str → V) : R2 := fun x y H Q => rI0 f x y H Q ∨ ∃ i j, x = .str i ∧ y = .str j ∧ Q (g i j) H
theorem og_ord {K : PySem.W.Frag} {f : Int → Int → Bool} {g : Str → Str → Bool} {d : D → D → Option D} (h1 : ∀ i j, d (.int i) (.int j) = some (.bl (f i j))) (h2 : ∀ i j, d (.str i) (.str j) = some (.bl (g i j)))
    (h3 : ∀ x y z, d x y = some z → (∃ i j, x = .int i ∧ y = .int j) ∨ ∃ i j, x = .str i ∧ y = .str j) : OpG K (rOrd (fun i j => .bl (f i j)) (fun i j => .bl (g i j))) (g2 d) := opG_scal fun H x y dx dy z rx ry e Q q => by
  rcases h3 _ _ _ e with ⟨i, j, rfl, rfl⟩ | ⟨i, j, rfl, rfl⟩
  · cases rx; cases ry; rw [h1] at e; cases e
    exact .inl ⟨i, j, rfl, rfl, q _ fun H' => .bl _⟩
  · cases rx; cases ry; rw [h2] at e; cases e
    exact .inr ⟨i, j, rfl, rfl, q _ fun H' => .bl _⟩
theorem dLt_k {x y z : D} (e : dLt x y = some z) : (∃ i j, x = .int i ∧ y = .int j) ∨ ∃ i j, x = .str i ∧ y = .str j := by
  cases x <;> cases y <;> first | exact .inl ⟨_, _, rfl, rfl⟩ | exact .inr ⟨_, _, rfl, rfl⟩ | cases e
theorem dLe_k {x y z : D} (e : dLe x y = some z) : (∃ i j, x = .int i ∧ y = .int j) ∨ ∃ i j, x = .str i ∧ y = .str j := by
  cases x <;> cases y <;> first | exact .inl ⟨_, _, rfl, rfl⟩ | exact .inr ⟨_, _, rfl, rfl⟩ | cases e
abbrev rLt : R2 := rOrd (fun i j => .bl (decide (i < j))) (fun i j => .bl (decide (i.cps.toList < j.cps.toList)))
abbrev rLe : R2 := rOrd (fun i j => .bl (decide (i ≤ j))) (fun i j => .bl (!decide (j.cps.toList < i.cps.toList)))
abbrev rGt : R2 := rOrd (fun i j => .bl (decide (j < i))) (fun i j => .bl (decide (j.cps.toList < i.cps.toList)))
abbrev rGe : R2 := rOrd (fun i j => .bl (decide (j ≤ i))) (fun i j => .bl (!decide (i.cps.toList < j.cps.toList)))
abbrev gLt : G2 := g2 dLt
abbrev gLe : G2 := g2 dLe
abbrev gGt : G2 := g2 fun x y => dLt y x
abbrev gGe : G2 := g2 fun x y => dLe y x
theorem og_lt {K : PySem.W.Frag} : OpG K rLt gLt := og_ord (fun _ _ => rfl) (fun _ _ => rfl) (fun _ _ _ => dLt_k)
theorem og_le {K : PySem.W.Frag} : OpG K rLe gLe := og_ord (fun _ _ => rfl) (fun _ _ => rfl) (fun _ _ _ => dLe_k)
theorem og_gt {K : PySem.W.Frag} : OpG K rGt gGt := og_ord (fun _ _ => rfl) (fun _ _ => rfl) (fun _ _ _ e => (dLt_k e).imp (fun ⟨i, j, a, b⟩ => ⟨j, i, b, a⟩) fun ⟨i, j, a, b⟩ => ⟨j, i, b, a⟩)
theorem og_ge {K : PySem.W.Frag} : OpG K rGe gGe := og_ord (fun _ _ => rfl) (fun _ _ => rfl) (fun _ _ _ e => (dLe_k e).imp (fun ⟨i, j, a, b⟩ => ⟨j, i, b, a⟩) fun ⟨i, j, a, b⟩ => ⟨j, i, b, a⟩)
theorem op_ltP : OpR X (compareOp .Lt) rLt := op_lt.or op_lt_str
theorem op_leP : OpR X (compareOp .LtE) rLe := op_le.or op_le_str
theorem op_gtP : OpR X (compareOp .Gt) rGt := op_gt.or op_gt_str
theorem op_geP : OpR X (compareOp .GtE) rGe := op_ge.or op_ge_str
theorem dt_lt (ha : DE X W a ta fa) (hb : DE X W b tb fb) (hm : behindInMarks .Lt b = false := by rfl) : DT X W (.Compare a [.Lt] [b] pos) (tTest (tOp rLt ta tb)) (fTest (fBin gLt fa fb)) := dt_cmp op_ltP og_lt ha hb hm
theorem dt_le (ha : DE X W a ta fa) (hb : DE X W b tb fb) (hm : behindInMarks .LtE b = false := by rfl) : DT X W (.Compare a [.LtE] [b] pos) (tTest (tOp rLe ta tb)) (fTest (fBin gLe fa fb)) := dt_cmp op_leP og_le ha hb hm
theorem dt_gt (ha : DE X W a ta fa) (hb : DE X W b tb fb) (hm : behindInMarks .Gt b = false := by rfl) : DT X W (.Compare a [.Gt] [b] pos) (tTest (tOp rGt ta tb)) (fTest (fBin gGt fa fb)) := dt_cmp op_gtP og_gt ha hb hm
theorem dt_ge (ha : DE X W a ta fa) (hb : DE X W b tb fb) (hm : behindInMarks .GtE b = false := by rfl) : DT X W (.Compare a [.GtE] [b] pos) (tTest (tOp rGe ta tb)) (fTest (fBin gGe fa fb)) := dt_cmp op_geP og_ge ha hb hm
theorem de_lt (ha : DE X W a ta fa) (hb : DE X W b tb fb) (hm : behindInMarks .Lt b = false := by rfl) : DE X W (.Compare a [.Lt] [b] pos) (tOp rLt ta tb) (fBin gLt fa fb) := de_cmp op_ltP og_lt ha hb hm
theorem de_le (ha : DE X W a ta fa) (hb : DE X W b tb fb) (hm : behindInMarks .LtE b = false := by rfl) : DE X W (.Compare a [.LtE] [b] pos) (tOp rLe ta tb) (fBin gLe fa fb) := de_cmp op_leP og_le ha hb hm
theorem de_gt (ha : DE X W a ta fa) (hb : DE X W b tb fb) (hm : behindInMarks .Gt b = false := by rfl) : DE X W (.Compare a [.Gt] [b] pos) (tOp rGt ta tb) (fBin gGt fa fb) := de_cmp op_gtP og_gt ha hb hm
theorem de_ge (ha : DE X W a ta fa) (hb : DE X W b tb fb) (hm : behindInMarks .GtE b = false := by rfl) : DE X W (.Compare a [.GtE] [b] pos) (tOp rGe ta tb) (fBin gGe fa fb) := de_cmp op_geP og_ge ha hb hm
/-! ### equality, None: tests -/
theorem dt_eq (hu : X.A.units + 65 < cLine) (ha : DE X W a ta fa) (hb : DE X W b tb fb) (hm : behindInMarks .Eq b = false := by rfl) : DT X W (.Compare a [.Eq] [b] pos) (tTest (tOp (rEqA X.K) ta tb)) (fTest (fBin (g2 dEq) fa fb)) := dt_cmp (op_eqA (by omega)) og_eq ha hb hm
theorem dt_ne (hu : X.A.units + 65 < cLine) (ha : DE X W a ta fa) (hb : DE X W b tb fb) (hm : behindInMarks .NotEq b = false := by rfl) : DT X W (.Compare a [.NotEq] [b] pos) (tTest (tOp (rNeA X.K) ta tb)) (fTest (fBin (g2 dNe) fa fb)) := dt_cmp (op_neA (by omega)) og_ne ha hb hm
theorem de_eq (hu : X.A.units + 65 < cLine) (ha : DE X W a ta fa) (hb : DE X W b tb fb) (hm : behindInMarks .Eq b = false := by rfl) : DE X W (.Compare a [.Eq] [b] pos) (tOp (rEqA X.K) ta tb) (fBin (g2 dEq) fa fb) := de_cmp (op_eqA (by omega)) og_eq ha hb hm
theorem de_ne (hu : X.A.units + 65 < cLine) (ha : DE X W a ta fa) (hb : DE X W b tb fb) (hm : behindInMarks .NotEq b = false := by rfl) : DE X W (.Compare a [.NotEq] [b] pos) (tOp (rNeA X.K) ta tb) (fBin (g2 dNe) fa fb) := de_cmp (op_neA (by omega)) og_ne ha hb hm
/-! ### in -/
def xorB (neg b : Bool) : Bool := if neg then !b else b
def inD (neg : Bool) (x y : D) : Option D := match y with
  | .lst ds => match x.py, pys ds with
    | some p, some ps => if SeqAt.shaped p = true ∧ SeqAt.shaped (.list ps) = true then some (.bl (xorB neg (ps.any fun z => PyData.eqv z p))) else none
    | _, _ => none
  | .tup ds => match x.py, pys ds with
    | some p, some ps => if SeqAt.shaped p = true ∧ SeqAt.shaped (.list ps) = true then some (.bl (xorB neg (ps.any fun z => PyData.eqv z p))) else none
    | _, _ => none
  | .str z => match x with
    | .str w => some (.bl (xorB neg (!(Builtin.Str.occurrences z w 0 z.length 1).isEmpty)))
    | _ => none
  | _ => none
def rInA (K : PySem.W.Frag) (neg : Bool) : R2 := fun x y H Q => (∃ d ds, Dp K H x d ∧ (Dp K H y (.list ds) ∨ Dp K H y (.tuple ds)) ∧ SeqAt.shaped d = true ∧ SeqAt.shaped (.list ds) = true ∧ Q (.bl (xorB neg (ds.any fun z => PyData.eqv z d))) H) ∨
  ∃ i j, x = .str i ∧ y = .str j ∧ Q (.bl (xorB neg (!(Builtin.Str.occurrences j i 0 j.length 1).isEmpty))) H
theorem op_inA (hu : X.A.units + 65 < cLine) : OpR X (compareOp .In) (rInA X.K false) := by
  rintro pins s σ H x y v u Q I rx ry (⟨d, ds, hd, he, sd, se, q⟩ | ⟨i, j, e1, e2, q⟩)
  · obtain ⟨as, r1⟩ := Dp.reads I d x v hd rx
    rcases he with he | he
    · obtain ⟨bs, r2⟩ := Dp.reads I (.list ds) y u he ry
      exact SeqAt.in_list_reads r2 r1 (SeqAt.canLay_of_shaped se) (SeqAt.canLay_of_shaped sd) (room_in_shaped sd hu) ⟨.bl _, H, I, rfl, q⟩
    · obtain ⟨bs, r2⟩ := Dp.reads I (.tuple ds) y u he ry
      exact SeqAt.in_tuple_reads r2 r1 (SeqAt.canLay_of_shaped se) (SeqAt.canLay_of_shaped sd) (room_in_shaped sd hu) ⟨.bl _, H, I, rfl, q⟩
  · exact op_in_str pins s σ H x y v u Q I rx ry ⟨i, j, e1, e2, q⟩
theorem op_notInA (hu : X.A.units + 65 < cLine) : OpR X (compareOp .NotIn) (rInA X.K true) := by
  rintro pins s σ H x y v u Q I rx ry (⟨d, ds, hd, he, sd, se, q⟩ | ⟨i, j, e1, e2, q⟩)
  · obtain ⟨as, r1⟩ := Dp.reads I d x v hd rx
    rcases he with he | he
    · obtain ⟨bs, r2⟩ := Dp.reads I (.list ds) y u he ry
      exact SeqAt.notIn_list_reads r2 r1 (SeqAt.canLay_of_shaped se) (SeqAt.canLay_of_shaped sd) (room_in_shaped sd hu) ⟨.bl _, H, I, rfl, q⟩
    · obtain ⟨bs, r2⟩ := Dp.reads I (.tuple ds) y u he ry
      exact SeqAt.notIn_tuple_reads r2 r1 (SeqAt.canLay_of_shaped se) (SeqAt.canLay_of_shaped sd) (room_in_shaped sd hu) ⟨.bl _, H, I, rfl, q⟩
  · exact op_notIn_str pins s σ H x y v u Q I rx ry ⟨i, j, e1, e2, q⟩
theorem og_in {K : PySem.W.Frag} (neg : Bool) : OpG K (rInA K neg) (g2 (inD neg)) := opG_scal fun H x y dx dy z rx ry e Q q => by
  have fin : ∀ {ds : List D}, (Rp K H y (.lst ds) ∨ Rp K H y (.tup ds)) → (match dx.py, pys ds with
      | some p, some ps => if SeqAt.shaped p = true ∧ SeqAt.shaped (.list ps) = true then some (D.bl (xorB neg (ps.any fun z => PyData.eqv z p))) else none
      | _, _ => none) = some z → rInA K neg x y H Q := fun {ds} hy e => by
    cases e1 : dx.py with
    | none => rw [e1] at e; cases e
    | some p =>
      cases e2 : pys ds with
      | none => rw [e1, e2] at e; cases e
      | some ps =>
        rw [e1, e2] at e
        dsimp only at e
        by_cases h : SeqAt.shaped p = true ∧ SeqAt.shaped (.list ps) = true
        · rw [if_pos h] at e; cases e
          refine .inl ⟨p, ps, rx.dp e1, hy.imp (fun r => r.dp ?_) (fun r => r.dp ?_), h.1, h.2, q _ fun H' => .bl _⟩
          · show (D.lst ds).py = _; unfold D.py; rw [e2]; rfl
          · show (D.tup ds).py = _; unfold D.py; rw [e2]; rfl
        · rw [if_neg h] at e; cases e
  cases dy with
  | lst ds => exact fin (.inl ry) e
  | tup ds => exact fin (.inr ry) e
  | str z =>
    cases dx <;> try cases e
    cases rx; cases ry
    exact .inr ⟨_, _, rfl, rfl, q _ fun H' => .bl _⟩
  | _ => cases e
theorem dt_in (hu : X.A.units + 65 < cLine) (ha : DE X W a ta fa) (hb : DE X W b tb fb) (hm : behindInMarks .In b = false := by rfl) : DT X W (.Compare a [.In] [b] pos) (tTest (tOp (rInA X.K false) ta tb)) (fTest (fBin (g2 (inD false)) fa fb)) := dt_cmp (op_inA hu) (og_in false) ha hb hm
theorem dt_notIn (hu : X.A.units + 65 < cLine) (ha : DE X W a ta fa) (hb : DE X W b tb fb) (hm : behindInMarks .NotIn b = false := by rfl) : DT X W (.Compare a [.NotIn] [b] pos) (tTest (tOp (rInA X.K true) ta tb)) (fTest (fBin (g2 (inD true)) fa fb)) := dt_cmp (op_notInA hu) (og_in true) ha hb hm
theorem de_in (hu : X.A.units + 65 < cLine) (ha : DE X W a ta fa) (hb : DE X W b tb fb) (hm : behindInMarks .In b = false := by rfl) : DE X W (.Compare a [.In] [b] pos) (tOp (rInA X.K false) ta tb) (fBin (g2 (inD false)) fa fb) := de_cmp (op_inA hu) (og_in false) ha hb hm
theorem de_notIn (hu : X.A.units + 65 < cLine) (ha : DE X W a ta fa) (hb : DE X W b tb fb) (hm : behindInMarks .NotIn b = false := by rfl) : DE X W (.Compare a [.NotIn] [b] pos) (tOp (rInA X.K true) ta tb) (fBin (g2 (inD true)) fa fb) := de_cmp (op_notInA hu) (og_in true) ha hb hm
/-! ### methods of texts with one argument -/
def isStr : D → Bool
  | .str _ => true
  | _ => false
def fM1 (g : G2) (fo fe : FE) : FE := bindE fo fun ro S1 => if ((ro.peek S1).map isStr) = some true then bindE fe (fun re S2 => (g ro re S2).map fun z => .ok z.1 z.2) S1 else none
theorem ev_m1 {K : PySem.W.Frag} {r : V → List V → Hp → VK → Prop} {g : G2} (hg : OpG K (fun x y H Q => r x [y] H Q) g) (ho : EV K W to fo) (he : EV K W te fe) : EV K W (tM1 r to te) (fM1 g fo fe) := fun S σ H Φ A F G st out h Q q => by
  refine run1 (t := to) ho st h q.x fun ro S1 x H1 Φ1 A1 T F1 G1 sp st1 rv nd fz h1 => ?_
  by_cases hs : ((ro.peek S1).map isStr) = some true
  · rw [if_pos hs] at h1
    have ex : ∃ a, x = .str a := by
      cases e1 : ro.peek S1 with
      | none => rw [e1] at hs; cases hs
      | some d =>
        rw [e1] at hs
        have rp := rv.rp st1 e1
        cases d <;> try cases hs
        cases rp
        exact ⟨_, rfl⟩
    refine ⟨ex, run1 (t := te) he st1 h1 (fun e S' eo => (q.x e S' eo).at sp fz) fun re S2 y H2 Φ2 A2 U F2 G2 sp2 st2 rv2 nd2 fz2 h2 => ?_⟩
    cases e : g ro re S2 with
    | none => rw [e] at h2; cases h2
    | some z =>
      obtain ⟨rz, S'⟩ := z
      rw [e] at h2; cases h2
      have rv' := rv.step st1 nd sp2.drop fz2
      refine hg S2 σ H2 Φ2 A2 F2 G2 x y ro re T U st2 rv' rv2 (rv.nd nd sp2 nd2) rz S' e Q fun v H' Φ' A' V F' G' s2 st' rvz nd' f2 => ?_
      have s12 : Step F G H Φ A (T ++ (U ++ F2)) G2 H2 Φ2 A2 := sp.trans sp2
      exact q v H' Φ' A' V F' G' (Step.trans (T := []) (T1 := V) (F1 := T ++ (U ++ F2)) s12 s2) st' rvz nd' ((fz.trans fz2).trans f2)
  · rw [if_neg hs] at h1; cases h1
/-- a new list of texts -/
def gSplit : G2 := fun ra rb S => match ra.peek S, rb.peek S with
  | some (.str x), some (.str y) => if (y.length == 0) = false ∧ x.length ≤ 1000000 then some (.val (.own ((Txt.split x y).map fun z => .dat (.str z))), S) else none
  | _, _ => none
theorem rps_strs {K : PySem.W.Frag} {H : Hp} : ∀ {ys : List Str}, Rps K H (ys.map V.str) (ys.map D.str)
  | [] => .nil
  | _ :: ys => .cons (.str _) rps_strs
theorem k1000002 {n : Nat} (h : n ≤ 1000000) : n + 2 ≤ sizeLine := Nat.le_trans (Nat.add_le_add_right h 2) (by rw [sizeLine_eq]; decide)
theorem og_split {K : PySem.W.Frag} : OpG K (fun x y H Q => ∃ a b, x = .str a ∧ [y] = [.str b] ∧ (b.length == 0) = false ∧ a.length + 2 ≤ sizeLine ∧ rNewStrs (Txt.split a b) H Q) gSplit := by
  intro S σ H Φ A F G x y ra rb T U st rx ry nd rz S' e Q q
  unfold gSplit at e
  split at e
  · rename_i i j e1 e2
    split at e
    · rename_i hc
      cases e
      have r1 := rx.rp st e1
      have r2 := ry.rp st e2
      cases r1; cases r2
      refine ⟨i, j, rfl, rfl, hc.1, k1000002 hc.2, fun p hp => ?_⟩
      have stay : Step (T ++ (U ++ F)) G H Φ A F G H Φ A := ⟨fun _ _ e _ => e, fun _ _ e => e, fun _ _ e => .inl e, fun b hb => .inl (by simp [hb]), fun _ h => .inl h, fun _ h => h, Pfx.refl⟩
      have eds : ((Txt.split i j).map fun z => SV.dat (.str z)) = ((Txt.split i j).map D.str).map SV.dat := by rw [List.map_map]; rfl
      rw [eds] at q
      exact end_list q stay st rps_strs hp
    · cases e
  · cases e
def rSplit : V → List V → Hp → VK → Prop := fun x xs H Q => ∃ a b, x = .str a ∧ xs = [.str b] ∧ (b.length == 0) = false ∧ a.length + 2 ≤ sizeLine ∧ rNewStrs (Txt.split a b) H Q
theorem de_split (ho : DE X W o to fo) (he : DE X W e te fe) (hs : starEach [e] X.env = [(false, eval e X.env)] := by rfl) (hbase : attributeBase o "split" X.env (eval o X.env) = eval o X.env := by rfl) (hline : (apos.endLine == pos.line) = true := by rfl) :
    DE X W (.Call (.Attribute o "split" apos) [e] [] pos) (tM1 rSplit to te) (fM1 gSplit fo fe) :=
  ⟨pe_split ho.pe he.pe hs hbase hline, ev_m1 og_split ho.ev he.ev⟩
def strsD : List D → Option (List Str)
  | [] => some []
  | .str x :: ds => (strsD ds).map fun xs => x :: xs
  | _ :: _ => none
theorem strsD_eq : ∀ {ds : List D} {ys : List Str}, strsD ds = some ys → ds = ys.map D.str
  | [], ys, e => by cases e; rfl
  | d :: ds, ys, e => by
    cases d <;> try cases e
    rename_i x
    have e : (strsD ds).map (fun xs => x :: xs) = some ys := e
    cases e1 : strsD ds with
    | none => rw [e1] at e; cases e
    | some zs => rw [e1] at e; cases e; rw [strsD_eq e1]; rfl
theorem rps_strs' {K : PySem.W.Frag} {H : Hp} : ∀ {ys : List Str} {vs : List V}, Rps K H vs (ys.map D.str) → vs = ys.map V.str
  | [], _, .nil => rfl
  | _ :: ys, _, .cons q r => by cases q; rw [rps_strs' r]; rfl
def joinD (x : Str) (ds : List D) : Option D := (strsD ds).bind fun ys => if (ys.map (·.length)).sum + ys.length * x.length ≤ 16777216 then some (.str (Txt.join x ys)) else none
def dJoin : D → D → Option D
  | .str x, .lst ds => joinD x ds
  | .str x, .tup ds => joinD x ds
  | _, _ => none
theorem og_join {K : PySem.W.Frag} : OpG K (fun x y H Q => ∃ a p, ∃ ys : List Str, x = .str a ∧ [y] = [.ref p] ∧ (SqL K H p (ys.map V.str) ∨ SqT K H p (ys.map V.str)) ∧
      (ys.map (·.length)).sum + ys.length * a.length ≤ 16777216 ∧ Q (.str (Txt.join a ys)) H) (g2 dJoin) := opG_scal fun H x y dx dy z rx ry e Q q => by
  have fin : ∀ {i : Str} {ds : List D}, joinD i ds = some z → ∃ ys, ds = ys.map D.str ∧ (ys.map (·.length)).sum + ys.length * i.length ≤ 16777216 ∧ z = .str (Txt.join i ys) := fun {i ds} e => by
    unfold joinD at e
    cases e1 : strsD ds with
    | none => rw [e1] at e; cases e
    | some ys =>
      rw [e1, Option.bind_some] at e
      split at e
      · cases e; exact ⟨ys, strsD_eq e1, by assumption, rfl⟩
      · cases e
  cases dx <;> cases dy <;> try cases e
  · obtain ⟨ys, rfl, hz, rfl⟩ := fin e
    cases rx
    cases ry with
    | lst sq rr =>
      rw [rps_strs' rr] at sq
      exact ⟨_, _, ys, rfl, rfl, .inl (.inl (.inl sq)), hz, q _ fun H' => .str _⟩
  · obtain ⟨ys, rfl, hz, rfl⟩ := fin e
    cases rx
    cases ry with
    | tup sq rr =>
      rw [rps_strs' rr] at sq
      exact ⟨_, _, ys, rfl, rfl, .inr (.inl (.inl sq)), hz, q _ fun H' => .str _⟩
def rJoin (K : PySem.W.Frag) : V → List V → Hp → VK → Prop := fun x xs H Q => ∃ a p, ∃ ys : List Str, x = .str a ∧ xs = [.ref p] ∧ (SqL K H p (ys.map V.str) ∨ SqT K H p (ys.map V.str)) ∧ (ys.map (·.length)).sum + ys.length * a.length ≤ 16777216 ∧ Q (.str (Txt.join a ys)) H
theorem de_join (ho : DE X W o to fo) (he : DE X W e te fe) (hs : starEach [e] X.env = [(false, eval e X.env)] := by rfl) (hbase : attributeBase o "join" X.env (eval o X.env) = eval o X.env := by rfl) (hline : (apos.endLine == pos.line) = true := by rfl) :
    DE X W (.Call (.Attribute o "join" apos) [e] [] pos) (tM1 (rJoin X.K) to te) (fM1 (g2 dJoin) fo fe) :=
  ⟨pe_join ho.pe he.pe hs hbase hline, ev_m1 og_join ho.ev he.ev⟩
/-! ### name op= value -/
def fAug (i : Nat) (g : G2) (fe : FE) : FS := fun S => match S.ρ[i]? with
  | some (some _) => bindS fe (fun re S1 => match g (.bor i []) re S1 with
    | some (rz, S2) => match rz.kid S2 with
      | some (x, S3) => (S3.put i x).map SO.nx
      | none => none
    | none => none) S
  | _ => none
theorem ev_aug {K : PySem.W.Frag} {i : Nat} {r : R2} {g : G2} (hg : OpG K r g) (he : EV K W te fe) : SEV K W (tAug i te r) (fAug i g fe) := fun S σ H Φ A F G st out ho D q => by
  unfold fAug at ho
  cases e0 : S.ρ[i]? with
  | none => rw [e0] at ho; cases ho
  | some o0 =>
    cases o0 with
    | none => rw [e0] at ho; cases ho
    | some x0 =>
      rw [e0] at ho
      dsimp only at ho
      obtain ⟨v0, F1, Fi, F2, e3, _⟩ := st.ro.at e0
      refine ⟨v0, e3, runS2 (t := te) he st ho q fun re S1 y H1 Φ1 A1 T F1 G1 sp st1 rv nd fz q1 h1 => ?_⟩
      cases e1 : g (.bor i []) re S1 with
      | none => rw [e1] at h1; cases h1
      | some z =>
        obtain ⟨rz, S2⟩ := z
        rw [e1] at h1
        dsimp only at h1
        have rb : RV K Φ1 H1 A1 S1 σ v0 (.bor i []) [] := ⟨rfl, v0, e3, fun _ => rfl, fun _ _ => .nil⟩
        refine hg S1 σ H1 Φ1 A1 F1 G1 v0 y (.bor i []) re [] T st1 rb rv (by simpa using nd) rz S2 e1 _ fun v H' Φ' A' V F' G' s2 st2 rvz nd2 f2 => ?_
        have s2' : Step (T ++ F1) G1 H1 Φ1 A1 (V ++ F') G' H' Φ' A' := s2
        have s02 : Step F G H Φ A (V ++ F') G' H' Φ' A' := Step.trans (T := []) (T1 := V) (F1 := T ++ F1) sp s2'
        cases e4 : rz.kid S2 with
        | none => rw [e4] at h1; cases h1
        | some w =>
          obtain ⟨x, S3⟩ := w
          rw [e4] at h1
          obtain ⟨Φ3, F3, sp3, st3, rs3, fz3⟩ := kid_ok st2 rvz nd2 e4
          have nd3 : (V ++ (F3 ++ G')).Nodup := sp3.apart (fun b hb => (rvz.there b hb).1) nd2 st3.nd
          have h1 : (S3.put i x).map SO.nx = some out := h1
          unfold Sto.put at h1
          by_cases hi : i < S3.ρ.length
          · rw [if_pos hi] at h1; cases h1
            obtain ⟨F4, st4, hF⟩ := st3.set rs3 nd3 hi
            have s03 : Step F G H Φ A (V ++ F3) G' H' Φ3 A' := Step.trans (T1 := []) s02 sp3
            exact q (σ.set i (some v)) H' Φ3 A' F4 G' (s03.run.sub fun b hb => hb.imp_left fun h => by simpa using hF b h) st4
          · rw [if_neg hi] at h1; cases h1
theorem ds_aug {i : Nat} {x : Str} {op : Operator} {r : R2} {g : G2} {pos' : Pos} (hN : X.N.Nodup) (ho : OpR X (inplaceOp op) r) (hg : OpG X.K r g) (he : DE X W e te fe) (hi : X.N[i]? = some x := by rfl) (hx : Loc X.env.scope x := by first | exact Or.inl rfl | exact Or.inr rfl)
    (hf : X.fn x = true ∨ X.env.scope.names.lookup x = some .local := by first | exact .inl rfl | exact .inr rfl) : DS X W (.AugAssign (.Name x pos') op e pos) (tAug i te r) (fAug i g fe) := ⟨ps_aug hN hi hx he.pe ho hf, ev_aug hg he.ev⟩
def rAdd2 : R2 := fun x y H Q => rI0 (fun i j => .int (i + j)) x y H Q ∨ ∃ i j, x = .str i ∧ y = .str j ∧ i.length + j.length ≤ sizeLine ∧ Q (.str (i ++ j)) H
def gAdd2 : G2 := fun ra rb S => (g2 (dI iAdd) ra rb S).orElse fun _ => g2 sAdd ra rb S
theorem iop_add2 : OpR X (inplaceOp .Add) rAdd2 := iop_add.or iop_add_str
theorem og_add2 {K : PySem.W.Frag} : OpG K rAdd2 gAdd2 := og_addI.or og_addS
theorem ds_augAdd {i : Nat} {x : Str} {pos' : Pos} (hN : X.N.Nodup) (he : DE X W e te fe) (hi : X.N[i]? = some x := by rfl) (hx : Loc X.env.scope x := by first | exact Or.inl rfl | exact Or.inr rfl)
    (hf : X.fn x = true ∨ X.env.scope.names.lookup x = some .local := by first | exact .inl rfl | exact .inr rfl) : DS X W (.AugAssign (.Name x pos') .Add e pos) (tAug i te rAdd2) (fAug i gAdd2 fe) := ds_aug hN iop_add2 og_add2 he hi hx hf
theorem ds_augSub {i : Nat} {x : Str} {pos' : Pos} (hN : X.N.Nodup) (he : DE X W e te fe) (hi : X.N[i]? = some x := by rfl) (hx : Loc X.env.scope x := by first | exact Or.inl rfl | exact Or.inr rfl)
    (hf : X.fn x = true ∨ X.env.scope.names.lookup x = some .local := by first | exact .inl rfl | exact .inr rfl) : DS X W (.AugAssign (.Name x pos') .Sub e pos) (tAug i te (rI0 fun i j => .int (i - j))) (fAug i (g2 (dI iSub)) fe) := ds_aug hN iop_sub og_sub he hi hx hf
end
end L3

namespace L3
open PySem PySem.Spec PyProof.Rows L2

/-! ### the law's end: the script's list, the promise of the law's def -/
theorem rps_nums {K : PySem.W.Frag} {H : Hp} : ∀ ns : List Int, Rps K H (ns.map V.int) (ns.map D.int)
  | [] => .nil
  | _ :: ns => .cons (.int _) (rps_nums ns)
/-- the promise, from a heap in which at most the script is known -/
theorem end_call {P : Program} {w : World} {K : PySem.W.Frag} {mg mb : Str → Option Value} {k : Nat} {fa a : Addr} {fd : FuncData} {x : Str} {f : FnS} {μ : List SV} {s : Shared} {vs : List Value} {ns : List Int} {H : Hp}
    (kin : K.In s.heap) (glob : s.heap.Ns mainGlobals mg) (blt : s.heap.Ns builtinsNs mb) (boot : ∀ x : Str, x ≠ "__name__" → mb x = bootBuiltins x) (lim : s.heap.NoLimit) (gens : s.gens = #[])
    (room : Room k callerA) (F : ∀ base : Heap, K.In base → base.Ns mainGlobals mg → FG P w K mg base k fa fd [x] (spF K 1 f)) (bind : ∀ (s : Shared) (u : Value), BindsTo s fd ⟨[u], []⟩ [(x, u)])
    (val : f [.dat (.kl (ns.map D.int))] [] = some (.ok (.dat (.bl true)) μ))
    (script : s.heap.get? a = some { cls := .type "list", data := .seq vs.toArray }) (only : ∀ b u, H b = some u → b = a ∧ u = .frz { cls := .type "list", data := .seq vs.toArray } (.lst (ns.map V.int)))
    (sq : SqL K H a (ns.map V.int)) (ok : HOk P w H s.heap) (off : H a ≠ none → K.lookup a = none) :
    codeAny (model P w) callerA (.call (.ref fa) ⟨[.ref a], []⟩) (fun r s' => r = .ok (.ret (.bool true)) ∧ OldK s.heap s'.heap ∧ s'.os = s.os ∧ AllBare s'.gens) s := by
  have hide : ∀ {b : Addr} {o : Obj}, s.heap.get? b = some o → H b = none → (hidT s.heap H).get? b = some o := fun e z => hidT_get e z
  have dictOff : ∀ {b : Addr} {o : Obj} {es : Array DictEntry} {n : Nat}, s.heap.get? b = some o → o.data = .dict es n → H b = none := fun {b o es n} e d => by
    cases q : H b with
    | none => rfl
    | some u =>
      obtain ⟨rfl, _⟩ := only b u q
      rw [script] at e; cases e
      exact absurd d (by intro z; cases z)
  have space : ∀ {b : Addr} {m : Str → Option Value}, s.heap.Ns b m → (hidT s.heap H).Ns b m := fun {b m} ⟨o, es, n, e, d, r⟩ => ⟨o, es, n, hide e (dictOff e d), d, r⟩
  have kin' : K.In (hidT s.heap H) := fun b o e => by
    refine hide (kin b o e) ?_
    cases q : H b with
    | none => rfl
    | some u =>
      obtain ⟨rfl, _⟩ := only b u q
      have := off (by rw [q]; simp)
      rw [this] at e; cases e
  obtain ⟨mc, l1, l2⟩ := lim
  have modu : Mod K mg (hidT s.heap H) := ⟨kin', space glob, ⟨mb, space blt, boot⟩, ⟨mc, space l1, l2⟩⟩
  have env : Env0 P w K mg (hidT s.heap H) callerA [] s H := ⟨rfl, modu, fun b o e => of_hidT e, Nat.le_of_eq (hidT_size _ _), trivial, fun b hb => by simp [frs] at hb, ok, .of_eq gens⟩
  have st0 : Stands K ⟨[], []⟩ [] H H [] [] [] := ⟨Same.refl _, .nil, .nil, List.nodup_nil⟩
  have arg : RSs K H H [] [.ref a] [.dat (.kl (ns.map D.int))] [] := .cons (F := []) (.dat (.kl sq (rps_nums ns))) .nil
  have want : spF K 1 f [.ref a] H (fun v _ => v = .bl true) (fun _ _ _ => False) := by
    refine ⟨rfl, H, [], [], [], _, _, st0, arg, val, fun v H' Φ' A' T G' sp st rs nd => ?_⟩
    cases rs with
    | dat r => cases r; rfl
  refine codeAny_mono ((F _ kin' (space glob)).go callerA [] s H ⟨[.ref a], []⟩ [.ref a] [.ref a] _ _ room rfl env (bind s (.ref a)) (.cons rfl .nil) want) fun r s' post => ?_
  match r, post with
  | .error e, z => obtain ⟨_, _, _, _, _, _, _, _, _, _, _, _, bad⟩ := z; exact bad.elim
  | .ok .next, z => exact z.elim
  | .ok .brk, z => exact z.elim
  | .ok .cont, z => exact z.elim
  | .ok (.ret u), ⟨v, H', os, bare, un, ok', rel, ev⟩ =>
    have ev : v = .bl true := ev
    subst ev
    have eu : u = Value.bool true := rel
    subst eu
    refine ⟨rfl, OldK.of_keep fun b o e => ?_, os, bare⟩
    cases q : H b with
    | none => exact un.keep b o e q (by simp [frs]) (by simp)
    | some z =>
      obtain ⟨rfl, rfl⟩ := only b z q
      have later := un.frzs _ _ _ q
      obtain ⟨now, _⟩ := ok _ _ q
      rw [e] at now; cases now
      exact (ok' _ _ later).1
/-- what is left behind the head of a law, from the promise of its def -/
theorem end_walk {l : PySem.W.OpenLaw} {n k : Nat} {q : Program} {loose : List Str} {XP : (Str → Option Value) → Heap → Prop} {YP : World → Heap → Prop} {d : DefRec} {K : Params → PySem.W.Frag} {f : FnS} {x : Str}
    (hn : l.most = some n) (hz : n ≤ sizeLine) (hd : d.params.defaults = []) (room : Room k callerA) (hY : ∀ (w : World) (h : Heap), YP w h → (K w.params).In h)
    (F : ∀ (w : World) (mg : Str → Option Value) (fa : Addr) (h : Heap), (K w.params).In h → h.Ns mainGlobals mg → mg d.name = some (.ref fa) →
      ∃ fd : FuncData, (∀ (s : Shared) (u : Value), BindsTo s fd ⟨[u], []⟩ [(x, u)]) ∧ ∀ base : Heap, (K w.params).In base → base.Ns mainGlobals mg → FG l.prog w (K w.params) mg base k fa fd [x] (spF (K w.params) 1 f))
    (val : ∀ ns : List Int, ns.length ≤ n → (∀ i ∈ ns, Builtin.Int.intBits i ≤ 1048576) → ∃ μ, f [.dat (.kl (ns.map D.int))] [] = some (.ok (.dat (.bl true)) μ)) :
    PySem.W.WalkO q loose XP YP l.row.toRowW d [] (fun f vs => PySem.call f vs) := by
  refine Att.attach_callB hn hd fun w s₀ s mg mb fa o pm cd doc a vs ns G Y ho hdat hcd hmg script hints hlen hbits hg => ?_
  obtain ⟨fd, bind, promise⟩ := F w mg fa _ (hY w _ Y) G.T.g hmg
  obtain ⟨μ, ev⟩ := val ns hlen hbits
  have rv := vals_ints hints
  have lv := hints.length
  have hl : ns.length ≤ sizeLine := Nat.le_trans hlen hz
  have go := fun H => end_call (H := H) (hY w _ Y) G.T.g G.T.b G.T.builtins G.T.nolimit hg room promise bind ev script
  cases hk : (K w.params).lookup a with
  | some ob =>
    have e := hY w _ Y a ob hk
    rw [script] at e; cases e
    exact go (fun _ => none) (fun b u z => nomatch z) (.inr ⟨_, vs.toArray, _, hk, rfl, rfl, rfl, by rw [List.size_toArray, lv]; exact hl, by simpa using rv⟩) (fun b u z => nomatch z) fun z => absurd rfl z
  | none =>
    have at_ : (fun b => if b = a then some (HO.frz { cls := .type "list", data := .seq vs.toArray } (.lst (ns.map V.int))) else none : Hp) a = some (.frz { cls := .type "list", data := .seq vs.toArray } (.lst (ns.map V.int))) := if_pos rfl
    have inv : ∀ b u, (fun b => if b = a then some (HO.frz { cls := .type "list", data := .seq vs.toArray } (.lst (ns.map V.int))) else none : Hp) b = some u → b = a ∧ u = .frz { cls := .type "list", data := .seq vs.toArray } (.lst (ns.map V.int)) := fun b u z => by
      by_cases hb : b = a
      · subst hb; rw [at_] at z; cases z; exact ⟨rfl, rfl⟩
      · exact absurd ((if_neg hb).symm.trans z) (by simp)
    refine go _ inv (.inl (.inr ⟨_, at_⟩)) (fun b u z => ?_) fun _ => hk
    obtain ⟨rfl, rfl⟩ := inv b u z
    exact ⟨script, by rw [List.length_map]; exact hl, vs, _, rv, script⟩
end L3

namespace L3
open PySem PySem.Spec PyProof.Rows L2

/-! ### a def of the text, by its name -/
structure Df (P : Program) (w : World) (K : PySem.W.Frag) (mg : Str → Option Value) (base : Heap) (k : Nat) (x : Str) (n : Nat) (F : FnS) (dvs : List V) (dfl : List SV) : Prop where
  ex : ∃ (f : Addr) (fd : FuncData) (ps : List Str) (ds : List Value), mg x = some (.ref f) ∧ PySem.W.keepIn K (.ref f) = true ∧ Binds K fd ps ds ∧ Vals dvs ds ∧ Dfl K dvs dfl ∧ FG P w K mg base k f fd ps (spF K n F)
  len : ∀ as μ res, F as μ = some res → as.length = n
theorem df_of {P : Program} {w : World} {K : PySem.W.Frag} {mg : Str → Option Value} {base : Heap} {k m n : Nat} {x : Str} {fb : FS} {f : Addr} {fd : FuncData} {ps : List Str} (h : FG P w K mg base k f fd ps (spF K n (runF n m fb))) (hm : mg x = some (.ref f)) (hk : PySem.W.keepIn K (.ref f) = true) (bd : Binds K fd ps []) :
    Df P w K mg base k x n (runF n m fb) [] [] := ⟨⟨f, fd, ps, [], hm, hk, bd, .nil, dfl_nil, h⟩, runF_len⟩
section
variable {X : Cx} {W : WX} {a b e : Expr} {es : List Expr} {p pos : Pos} {ta tb te : TE} {t : TA} {fa fb fe : FE} {fA : FA} {k k' n : Nat} {x : Str} {F : FnS} {dvs : List V} {dfl : List SV}
theorem de_call (D : Df X.prog X.w X.K X.mg X.base k x n F dvs dfl) (room : Room k' X.A) (gd : X.A.guards = some []) (ha : DA X W (e :: es) t fA) (le : k ≤ k' := by decide) (tk : Takes X W := by first | exact takes0 | exact takes_of rfl rfl rfl rfl)
    (hg : Gl X x := by rfl) (hdb : (x == ("__debug__" : Str)) = false := by decide) (he : starEach (e :: es) X.env = (false, eval e X.env) :: starEach es X.env := by rfl) (hpl : (backTo pos (starEach es X.env)).any (·.1) = false := by rfl) : DE X W (.Call (.Name x p) (e :: es) [] pos) (tGo W (spF X.K n F) dvs t) (fGo F dfl fA) := by
  obtain ⟨f, fd, ps, ds, hm, hk, bd, dd, hd, h⟩ := D.ex
  exact de_go h D.len (room.mono le) gd hm hk bd dd hd tk ha hg hdb he hpl
abbrev rTupOf (K : PySem.W.Frag) : List V → Hp → VK → Prop := fun xs H Q => ∃ p ys, xs = [.ref p] ∧ ((SqL K H p ys ∧ ∀ l, H l = none → Q (.ref l) (upd H l (.tup ys))) ∨ (SqT K H p ys ∧ Q (.ref p) H))
abbrev rLstOf (K : PySem.W.Frag) : List V → Hp → VK → Prop := fun xs H Q => ∃ p ys, xs = [.ref p] ∧ (SqL K H p ys ∨ SqT K H p ys) ∧ ∀ l, H l = none → Q (.ref l) (upd H l (.lst ys))
abbrev rLenP (K : PySem.W.Frag) : List V → Hp → VK → Prop := fun xs H Q => ∃ x n, xs = [x] ∧ LenV K x H n ∧ Q (.int n) H
abbrev rMax2 : List V → Hp → VK → Prop := fun xs H Q => ∃ i j, xs = [.int i, .int j] ∧ Q (.int (if j > i then j else i)) H
abbrev rMin2 : List V → Hp → VK → Prop := fun xs H Q => ∃ i j, xs = [.int i, .int j] ∧ Q (.int (if j < i then j else i)) H
theorem de_len (hm : X.mg "len" = none) (ha : DA X W (e :: es) t fA) (hg : Gl X "len" := by rfl) (he : starEach (e :: es) X.env = (false, eval e X.env) :: starEach es X.env := by rfl) (hpl : (backTo pos (starEach es X.env)).any (·.1) = false := by rfl) : DE X W (.Call (.Name "len" p) (e :: es) [] pos) (tCB (rLenP X.K) t) (fB (gD lenD) fA) := de_B call_len bok_len PySem.boot_len hm ha hg (by decide) (by decide) he hpl
theorem de_max2 (hc : X.calm = true) (hm : X.mg "max" = none) (ha : DA X W (e :: es) t fA) (hg : Gl X "max" := by rfl) (he : starEach (e :: es) X.env = (false, eval e X.env) :: starEach es X.env := by rfl) (hpl : (backTo pos (starEach es X.env)).any (·.1) = false := by rfl) : DE X W (.Call (.Name "max" p) (e :: es) [] pos) (tCB rMax2 t) (fB (gD max2D) fA) := de_B (call_max2 hc) bok_max2 (by decide +kernel) hm ha hg (by decide) (by decide) he hpl
theorem de_min2 (hc : X.calm = true) (hm : X.mg "min" = none) (ha : DA X W (e :: es) t fA) (hg : Gl X "min" := by rfl) (he : starEach (e :: es) X.env = (false, eval e X.env) :: starEach es X.env := by rfl) (hpl : (backTo pos (starEach es X.env)).any (·.1) = false := by rfl) : DE X W (.Call (.Name "min" p) (e :: es) [] pos) (tCB rMin2 t) (fB (gD min2D) fA) := de_B (call_min2 hc) bok_min2 (by decide +kernel) hm ha hg (by decide) (by decide) he hpl
theorem de_sum (hc : X.calm = true) (hm : X.mg "sum" = none) (ha : DA X W (e :: es) t fA) (hg : Gl X "sum" := by rfl) (he : starEach (e :: es) X.env = (false, eval e X.env) :: starEach es X.env := by rfl) (hpl : (backTo pos (starEach es X.env)).any (·.1) = false := by rfl) : DE X W (.Call (.Name "sum" p) (e :: es) [] pos) (tCB (rSum X.K) t) (fB (gD sumD) fA) := de_B (cr_sum hc) bok_sum (by decide +kernel) hm ha hg (by decide) (by decide) he hpl
theorem de_repr (gd : X.A.guards = some []) (hu : X.A.units + 65 < cLine) (hm : X.mg "repr" = none) (ha : DA X W (e :: es) t fA) (hg : Gl X "repr" := by rfl) (he : starEach (e :: es) X.env = (false, eval e X.env) :: starEach es X.env := by rfl) (hpl : (backTo pos (starEach es X.env)).any (·.1) = false := by rfl) : DE X W (.Call (.Name "repr" p) (e :: es) [] pos) (tCB (rRepr X.K) t) (fB (gD reprD) fA) := de_B (cr_repr gd hu) bok_repr (by decide +kernel) hm ha hg (by decide) (by decide) he hpl
theorem de_tuple (hm : X.mg "tuple" = none) (ha : DA X W (e :: es) t fA) (hg : Gl X "tuple" := by rfl) (he : starEach (e :: es) X.env = (false, eval e X.env) :: starEach es X.env := by rfl) (hpl : (backTo pos (starEach es X.env)).any (·.1) = false := by rfl) : DE X W (.Call (.Name "tuple" p) (e :: es) [] pos) (tCB (rTupOf X.K) t) (fB gTupOf fA) := de_BT call_tuple_of bok_tupOf (by decide +kernel) hm ha hg (by decide) (by decide) he hpl
theorem de_list (hm : X.mg "list" = none) (ha : DA X W (e :: es) t fA) (hg : Gl X "list" := by rfl) (he : starEach (e :: es) X.env = (false, eval e X.env) :: starEach es X.env := by rfl) (hpl : (backTo pos (starEach es X.env)).any (·.1) = false := by rfl) : DE X W (.Call (.Name "list" p) (e :: es) [] pos) (tCB (rLstOf X.K) t) (fB gLstOf fA) := de_BT call_list_of bok_lstOf (by decide +kernel) hm ha hg (by decide) (by decide) he hpl
theorem de_isN (ha : DE X W a ta fa) (hb : DE X W b tb fb) (hm : behindInMarks .Is b = false := by rfl) : DE X W (.Compare a [.Is] [b] pos) (tOp (fun x y H Q => y = .non ∧ Q (.bl (decide (x = .non))) H) ta tb) (fBin (gIs false) fa fb) := de_cmp op_isN og_isN ha hb hm
theorem dt_isN (ha : DE X W a ta fa) (hb : DE X W b tb fb) (hm : behindInMarks .Is b = false := by rfl) : DT X W (.Compare a [.Is] [b] pos) (tTest (tOp (fun x y H Q => y = .non ∧ Q (.bl (decide (x = .non))) H) ta tb)) (fTest (fBin (gIs false) fa fb)) := dt_cmp op_isN og_isN ha hb hm
end
theorem units_of {k : Nat} {A : Around} (r : Room k A) : A.units + 65 < cLine := by have := r.un; omega
theorem unit1_of {k : Nat} {A : Around} (r : Room k A) : A.units + 1 < cLine := by have := r.un; omega
end L3

namespace L3
open PySem PySem.Spec PyProof.Rows L2

section
variable {X : Cx} {W : WX} {a b c e o : Expr} {es : List Expr} {p pos apos cpos : Pos} {ta tb tc te to : TE} {t : TA} {fa fb fc fe fo : FE} {fA : FA}
/-! ### is not None -/
abbrev rNotNV : R2 := fun x y H Q => y = .non ∧ Q (.bl (!decide (x = .non))) H
theorem de_notN (ha : DE X W a ta fa) (hb : DE X W b tb fb) (hm : behindInMarks .IsNot b = false := by rfl) : DE X W (.Compare a [.IsNot] [b] pos) (tOp rNotNV ta tb) (fBin (gIs true) fa fb) := de_cmp op_notN og_notN ha hb hm
theorem dt_notN (ha : DE X W a ta fa) (hb : DE X W b tb fb) (hm : behindInMarks .IsNot b = false := by rfl) : DT X W (.Compare a [.IsNot] [b] pos) (tTest (tOp rNotNV ta tb)) (fTest (fBin (gIs true) fa fb)) := dt_cmp op_notN og_notN ha hb hm
/-! ### names of the module -/
structure Glb (K : PySem.W.Frag) (mg : Str → Option Value) (x : Str) (v : V) (d : D) : Prop where
  ex : ∃ u, mg x = some u ∧ RelV v u
  rp : ∀ H, Rp K H v d
theorem de_globD {x : Str} {v : V} {d : D} (g : Glb X.K X.mg x v d) (hg : Gl X x := by rfl) (hd : (x == ("__debug__" : Str)) = false := by decide) : DE X W (.Name x pos) (tC v) (fC d) := by
  obtain ⟨u, hm, r⟩ := g.ex
  exact de_glob hm r g.rp hg hd
/-! ### any, all of a list of truth values -/
def bools : List D → Option (List Bool)
  | [] => some []
  | .bl b :: ds => (bools ds).map fun bs => b :: bs
  | _ :: _ => none
theorem bools_eq : ∀ {ds : List D} {bs : List Bool}, bools ds = some bs → ds = bs.map D.bl
  | [], bs, e => by cases e; rfl
  | d :: ds, bs, e => by
    cases d <;> try cases e
    rename_i x
    have e : (bools ds).map (fun xs => x :: xs) = some bs := e
    cases e1 : bools ds with
    | none => rw [e1] at e; cases e
    | some zs => rw [e1] at e; cases e; rw [bools_eq e1]; rfl
theorem rps_bools {K : PySem.W.Frag} {H : Hp} : ∀ {bs : List Bool} {vs : List V}, Rps K H vs (bs.map D.bl) → vs = bs.map V.bl
  | [], _, .nil => rfl
  | _ :: ys, _, .cons q r => by cases q; rw [rps_bools r]; rfl
def anyD : List D → Option D
  | [.lst ds] => (bools ds).map fun bs => .bl (bs.any id)
  | _ => none
def allD : List D → Option D
  | [.lst ds] => (bools ds).map fun bs => .bl (bs.all id)
  | _ => none
theorem bok_any {K : PySem.W.Frag} : BOk K (rAny K) (gD anyD) := bok_D fun H vs ds z rr e Q q => by
  unfold anyD at e
  split at e
  · rename_i es
    cases e1 : bools es with
    | none => rw [e1] at e; cases e
    | some is =>
      rw [e1] at e; cases e
      cases rr with
      | cons r rs =>
        cases rs
        cases r with
        | lst rd r2 =>
          rw [bools_eq e1] at r2
          exact ⟨_, is, rfl, (by rw [← rps_bools r2]; exact .inl (.inl rd)), q _ fun H' => .bl _⟩
  · cases e
theorem bok_all {K : PySem.W.Frag} : BOk K (rAll K) (gD allD) := bok_D fun H vs ds z rr e Q q => by
  unfold allD at e
  split at e
  · rename_i es
    cases e1 : bools es with
    | none => rw [e1] at e; cases e
    | some is =>
      rw [e1] at e; cases e
      cases rr with
      | cons r rs =>
        cases rs
        cases r with
        | lst rd r2 =>
          rw [bools_eq e1] at r2
          exact ⟨_, is, rfl, (by rw [← rps_bools r2]; exact .inl (.inl rd)), q _ fun H' => .bl _⟩
  · cases e
theorem de_any (hc : X.calm = true) (hm : X.mg "any" = none) (ha : DA X W (e :: es) t fA) (hg : Gl X "any" := by rfl) (he : starEach (e :: es) X.env = (false, eval e X.env) :: starEach es X.env := by rfl) (hpl : (backTo pos (starEach es X.env)).any (·.1) = false := by rfl) : DE X W (.Call (.Name "any" p) (e :: es) [] pos) (tCB (rAny X.K) t) (fB (gD anyD) fA) := de_B (cr_any hc) bok_any (by decide +kernel) hm ha hg (by decide) (by decide) he hpl
theorem de_all (hc : X.calm = true) (hm : X.mg "all" = none) (ha : DA X W (e :: es) t fA) (hg : Gl X "all" := by rfl) (he : starEach (e :: es) X.env = (false, eval e X.env) :: starEach es X.env := by rfl) (hpl : (backTo pos (starEach es X.env)).any (·.1) = false := by rfl) : DE X W (.Call (.Name "all" p) (e :: es) [] pos) (tCB (rAll X.K) t) (fB (gD allD) fA) := de_B (cr_all hc) bok_all (by decide +kernel) hm ha hg (by decide) (by decide) he hpl
/-! ### abs -/
def absD : List D → Option D
  | [.int i] => some (.int (if i < 0 then -i else i))
  | _ => none
end
end L3

namespace L3
open PySem PySem.Spec PyProof.Rows L2

/-! ### texts in order -/
def sLe (x y : Str) : Bool := !decide (y.cps.toList < x.cps.toList)
theorem str_ext {x y : Str} (h : x.cps.toList = y.cps.toList) : x = y := by
  cases x; cases y; simp at h; simp [h]
theorem sLe_trans (a b c : Str) (h1 : sLe a b = true) (h2 : sLe b c = true) : sLe a c = true := by
  unfold sLe at *; simp only [Bool.not_eq_true', decide_eq_false_iff_not, List.not_lt] at *; exact List.le_trans h1 h2
theorem sLe_total (a b : Str) : (sLe a b || sLe b a) = true := by
  unfold sLe
  simp only [Bool.or_eq_true, Bool.not_eq_true', decide_eq_false_iff_not, List.not_lt]
  exact List.le_total _ _
theorem sLe_anti {a b : Str} (h1 : sLe a b = true) (h2 : sLe b a = true) : a = b := by
  unfold sLe at *; simp only [Bool.not_eq_true', decide_eq_false_iff_not, List.not_lt] at *; exact str_ext (List.le_antisymm h1 h2)
def sortStrs (xs : List Str) : List Str := xs.mergeSort sLe
theorem sortStrs_perm {xs : List Str} : (sortStrs xs).Perm xs := List.mergeSort_perm _ _
theorem sortStrs_pw {xs : List Str} : (sortStrs xs).Pairwise fun a b => sLe a b = true := List.pairwise_mergeSort sLe_trans sLe_total xs
@[simp] theorem sortStrs_mem {xs : List Str} {x : Str} : x ∈ sortStrs xs ↔ x ∈ xs := sortStrs_perm.mem_iff
@[simp] theorem sortStrs_len {xs : List Str} : (sortStrs xs).length = xs.length := sortStrs_perm.length_eq
theorem risingS_pw : ∀ {xs : List Str} {p : Str}, risingS p xs = true → (p :: xs).Pairwise fun a b => sLe a b = true
  | [], p, _ => by simp
  | x :: r, p, h => by
    simp only [risingS, ltCps_eq, Bool.and_eq_true] at h
    have ih := risingS_pw h.2
    have e1 : sLe p x = true := h.1
    refine List.pairwise_cons.mpr ⟨fun y hy => ?_, ih⟩
    rcases List.mem_cons.mp hy with rfl | hy
    · exact e1
    · exact sLe_trans _ _ _ e1 ((List.pairwise_cons.mp ih).1 y hy)
theorem sortedS_pw {xs : List Str} (h : sortedS xs = true) : xs.Pairwise fun a b => sLe a b = true := by
  cases xs with
  | nil => simp
  | cons x r => exact risingS_pw h
theorem sort_uniq {xs ys : List Str} (hp : ys.Perm xs) (hs : ys.Pairwise fun a b => sLe a b = true) : ys = sortStrs xs :=
  List.Perm.eq_of_pairwise (fun _ _ _ _ h1 h2 => sLe_anti h1 h2) hs sortStrs_pw (hp.trans sortStrs_perm.symm)
def gSortS : GB := fun rs S => match peeksR rs S with
  | some [.lst ds] => (strsD ds).bind fun ys => if ys.length < 64 then some (.val (.own ((sortStrs ys).map fun z => .dat (.str z))), S) else none
  | _ => none
theorem bok_sortS {K : PySem.W.Frag} : BOk K (rSortedS K) gSortS := by
  intro S σ H Φ A F G vs rs T st rv nd rz S' e Q q
  unfold gSortS at e
  split at e
  · rename_i ds ep
    cases es : strsD ds with
    | none => rw [es] at e; cases e
    | some ys =>
      rw [es, Option.bind_some] at e
      by_cases hl : ys.length < 64
      · rw [if_pos hl] at e; cases e
        have rr := peeksR_ok st rv ep
        cases rr with
        | cons r rs2 =>
          cases rs2
          cases r with
          | lst rd r2 =>
            rw [strsD_eq es] at r2
            refine ⟨_, ys, rfl, (by rw [← rps_strs' r2]; exact .inl (.inl rd)), hl, fun zs p hp hs hn => ?_⟩
            rw [sort_uniq hp (sortedS_pw hs)]
            have stay : Step (T ++ F) G H Φ A F G H Φ A := ⟨fun _ _ e _ => e, fun _ _ e => e, fun _ _ e => .inl e, fun b hb => .inl (by simp [hb]), fun _ h => .inl h, fun _ h => h, Pfx.refl⟩
            have eds : ((sortStrs ys).map fun z => SV.dat (.str z)) = ((sortStrs ys).map D.str).map SV.dat := by rw [List.map_map]; rfl
            rw [eds] at q
            exact end_list q stay st rps_strs hn
      · rw [if_neg hl] at e; cases e
  · cases e
section
variable {X : Cx} {W : WX} {a b c e o : Expr} {es : List Expr} {p pos apos cpos : Pos} {ta tb tc te to : TE} {t : TA} {fa fb fc fe fo : FE} {fA : FA}
theorem de_sortS (hm : X.mg "sorted" = none) (ha : DA X W (e :: es) t fA) (hg : Gl X "sorted" := by rfl) (he : starEach (e :: es) X.env = (false, eval e X.env) :: starEach es X.env := by rfl) (hpl : (backTo pos (starEach es X.env)).any (·.1) = false := by rfl) : DE X W (.Call (.Name "sorted" p) (e :: es) [] pos) (tCB (rSortedS X.K) t) (fB gSortS fA) := de_B cr_sortedS bok_sortS (by decide +kernel) hm ha hg (by decide) (by decide) he hpl
/-! ### abs -/
abbrev rAbs : List V → Hp → VK → Prop := fun xs H Q => ∃ i, xs = [.int i] ∧ Q (.int (if i < 0 then -i else i)) H
theorem bok_abs {K : PySem.W.Frag} : BOk K rAbs (gD absD) := bok_D fun H vs ds z rr e Q q => by
  unfold absD at e
  split at e
  · cases e
    cases rr with
    | cons r rs => cases rs; cases r; exact ⟨_, rfl, q _ fun H' => .int _⟩
  · cases e
theorem de_abs (hm : X.mg "abs" = none) (ha : DA X W (e :: es) t fA) (hg : Gl X "abs" := by rfl) (he : starEach (e :: es) X.env = (false, eval e X.env) :: starEach es X.env := by rfl) (hpl : (backTo pos (starEach es X.env)).any (·.1) = false := by rfl) : DE X W (.Call (.Name "abs" p) (e :: es) [] pos) (tCB rAbs t) (fB (gD absD) fA) := de_B call_abs bok_abs (by decide +kernel) hm ha hg (by decide) (by decide) he hpl
/-! ### a chain of two comparisons -/
def fChain (g g' : G2) (fa fb fc : FE) : FE := bindE fa fun ra => bindE fb fun rb S2 => match g ra rb S2 with
  | some (rz, S3) => match rz.bl S3 with
    | some true => bindE fc (fun rc S4 => (g' rb rc S4).map fun z => .ok z.1 z.2) S3
    | some false => some (.ok (.b false) S3)
    | none => none
  | none => none
end
end L3

namespace L3
open PySem PySem.Spec PyProof.Rows L2

/-! ### dict(a list of pairs) -/
def pairsD : List D → Option (List (Key × D))
  | [] => some []
  | .tup [k, v] :: ds => (k.key).bind fun k => (pairsD ds).map fun r => (k, v) :: r
  | _ :: _ => none
def mkD : List Key → List D → List (Key × D) → List Key × List D
  | ks, ds, [] => (ks, ds)
  | ks, ds, kd :: r => mkD (putKs kd.1 kd.2 ks ds).1 (putKs kd.1 kd.2 ks ds).2 r
def gDict : GB := fun rs S => match rs with
  | [r] => match r.its S with
    | some (false, ds) => (pairsD ds).map fun kds => (.val (.node (.dK (mkD [] [] kds).1) ((mkD [] [] kds).2.map SV.dat)), S)
    | _ => none
  | _ => none
abbrev rDictP (K : PySem.W.Frag) : List V → Hp → VK → Prop := fun xs H Q => ∃ (a : Addr) (ps : List Addr) (kvs : List (Key × V)), xs = [.ref a] ∧ SqL K H a (ps.map V.ref) ∧ Paired (fun p kv => SqT K H p [kV kv.1, kv.2]) ps kvs ∧
    ∀ p, H p = none → Q (.ref p) (upd H p (.dK (mergeK [] kvs)))
theorem pairs_rps {K : PySem.W.Frag} {Φ H : Hp} (le : Same Φ H) : ∀ {vs : List V} {ds : List D} {kds : List (Key × D)}, Rps K Φ vs ds → pairsD ds = some kds →
    ∃ (ps : List Addr) (kvs : List (Key × V)), vs = ps.map V.ref ∧ Paired (fun p kv => SqT K H p [kV kv.1, kv.2]) ps kvs ∧ kvs.map (·.1) = kds.map (·.1) ∧ Rps K Φ (kvs.map (·.2)) (kds.map (·.2))
  | _, _, kds, .nil, e => by cases e; exact ⟨[], [], rfl, .nil, rfl, .nil⟩
  | _, _, kds, .cons (v := v) (d := d) (ds := ds) q r, e => by
    unfold pairsD at e
    split at e
    · rename_i h1; cases h1
    · rename_i k w es h1
      obtain ⟨rfl, rfl⟩ := List.cons.inj h1
      cases ek : k.key with
      | none => rw [ek] at e; cases e
      | some j =>
        rw [ek, Option.bind_some] at e
        cases ep : pairsD ds with
        | none => rw [ep] at e; cases e
        | some kr =>
          rw [ep] at e; cases e
          obtain ⟨ps, kvs, e1, e2, e3, e4⟩ := pairs_rps le r ep
          cases q with
          | @tup a ws _ sq rr =>
            cases rr with
            | @cons v1 _ _ _ q1 rr =>
              cases rr with
              | @cons v2 _ _ _ q2 rr =>
                cases rr
                have e5 := key_rp q1 ek
                subst e5
                exact ⟨a :: ps, (j, v2) :: kvs, by rw [e1]; rfl, .cons (.inl (.inl (le _ _ sq))) e2, by rw [List.map_cons, List.map_cons, e3], .cons q2 e4⟩
    · cases e
theorem mk_rps {K : PySem.W.Frag} {Φ : Hp} : ∀ {kvs : List (Key × V)} {kds : List (Key × D)} {ks : List Key} {vs : List V} {ds : List D}, kvs.map (·.1) = kds.map (·.1) → Rps K Φ (kvs.map (·.2)) (kds.map (·.2)) → ks.length = vs.length → ks.Nodup → Rps K Φ vs ds →
    ∃ vs', mergeK (ks.zip vs) kvs = (mkD ks ds kds).1.zip vs' ∧ (mkD ks ds kds).1.length = vs'.length ∧ (mkD ks ds kds).1.Nodup ∧ Rps K Φ vs' (mkD ks ds kds).2
  | [], [], ks, vs, ds, _, _, hl, nd, r => ⟨vs, rfl, hl, nd, r⟩
  | kv :: kvs, kd :: kds, ks, vs, ds, ek, rr, hl, nd, r => by
    rw [List.map_cons, List.map_cons] at ek rr
    obtain ⟨h1, h2⟩ := List.cons.inj ek
    cases rr with
    | cons q rr =>
      have hl2 : ks.length = ds.length := hl.trans r.length
      have hks : (putKs kd.1 kv.2 ks vs).1 = (putKs kd.1 kd.2 ks ds).1 := putKs_keys hl hl2
      have hput : ∀ {ks : List Key} {vs : List V} {ds : List D}, ks.length = vs.length → Rps K Φ vs ds → Rps K Φ (putKs kd.1 kv.2 ks vs).2 (putKs kd.1 kd.2 ks ds).2 := by
        intro ks
        induction ks with
        | nil => intro vs ds hl r; cases r with
          | nil => exact .cons q .nil
          | cons => simp at hl
        | cons j ks ih => intro vs ds hl r; cases r with
          | nil => simp at hl
          | cons q1 r1 =>
            rw [putKs, putKs]
            by_cases e : j = kd.1
            · rw [if_pos e, if_pos e]; exact .cons q r1
            · rw [if_neg e, if_neg e]; exact .cons q1 (ih (by simpa using hl) r1)
      obtain ⟨vs', e1, e2, e3, e4⟩ := mk_rps (ks := (putKs kd.1 kd.2 ks ds).1) (vs := (putKs kd.1 kv.2 ks vs).2) (ds := (putKs kd.1 kd.2 ks ds).2) h2 rr (by rw [← hks]; exact putKs_len hl) (by rw [← hks]; exact putKs_nodup hl nd) (hput hl r)
      refine ⟨vs', ?_, e2, e3, e4⟩
      show mergeK (putK (ks.zip vs) kv.1 kv.2) kvs = _
      rw [h1, zip_put hl nd, hks]; exact e1
theorem bok_dict {K : PySem.W.Frag} : BOk K (rDictP K) gDict := by
  intro S σ H Φ A F G vs rs T st rv nd rz S' e Q q
  unfold gDict at e
  split at e
  · rename_i r
    split at e
    · rename_i ds ei
      cases ep : pairsD ds with
      | none => rw [ep] at e; cases e
      | some kds =>
        rw [ep] at e; cases e
        obtain ⟨v, rfl, rv1⟩ := rvs_one rv
        obtain ⟨Φ', a, ws, rfl, sq, rr, sp, st'⟩ := its_ok st rv1 nd ei
        have sq : SqL K H a ws := sq
        obtain ⟨ps, kvs, e1, e2, e3, e4⟩ := pairs_rps (H := H) st'.le rr ep
        subst e1
        refine ⟨a, ps, kvs, rfl, sq, e2, fun p hp => ?_⟩
        obtain ⟨vs', f1, f2, f3, f4⟩ := mk_rps (ks := []) (vs := []) (ds := []) e3 e4 rfl List.nodup_nil .nil
        have f1 : mergeK [] kvs = _ := f1
        rw [f1]
        have hΦ : Φ' p = none := by
          cases e : Φ' p with
          | none => rfl
          | some o => have := st'.le _ _ e; rw [hp] at this; cases this
        have no : ∀ b ∈ ([] : List Addr) ++ (F ++ G), b ≠ p := fun b hb z => by
          subst z
          rcases List.mem_append.mp hb with hb | hb
          · cases hb
          · rcases List.mem_append.mp hb with hb | hb
            · exact (st.ro.there b hb).1 hp
            · exact (st.rc.there b hb).1 hp
        obtain ⟨n1, n2, n3⟩ := new_node (n := .dK (mkD [] [] kds).1) st' (rss_dat (H := H) (A := A) f4) (by simpa using st'.nd) no hΦ ⟨f2, f3⟩
        refine q (.ref p) _ Φ' A [p] F G (sp.trans0 ⟨fun b o e _ => upd_same' hp _ _ e, fun _ _ e => e, fun _ _ e => .inl e, fun b hb => ?_, fun _ h => .inl h, fun b hb => ?_, Pfx.refl⟩) n1 n2 n3 .refl
        · rcases List.mem_append.mp hb with hb | hb
          · rw [List.mem_singleton.mp hb]; exact .inr (.inr hp)
          · exact .inl hb
        · by_cases e : b = p
          · subst e; rw [upd_same]; simp
          · rw [upd_ne e]; exact hb
    · cases e
  · cases e
section
variable {X : Cx} {W : WX} {a b c e f o : Expr} {es : List Expr} {p pos apos cpos : Pos} {ta tb tc te tf to : TE} {t : TA} {fa fb fc fe ff fo : FE} {fA : FA}
theorem de_dict (hc : X.calm = true) (hm : X.mg "dict" = none) (ha : DA X W (e :: es) t fA) (hg : Gl X "dict" := by rfl) (he : starEach (e :: es) X.env = (false, eval e X.env) :: starEach es X.env := by rfl) (hpl : (backTo pos (starEach es X.env)).any (·.1) = false := by rfl) : DE X W (.Call (.Name "dict" p) (e :: es) [] pos) (tCB (rDictP X.K) t) (fB gDict fA) := de_BT (call_dictP hc) bok_dict (by decide +kernel) hm ha hg (by decide) (by decide) he hpl

/-! ### d.get(k), d.get(k, x) -/
/-- is it a dict -/
def SV.isD (S : Sto) : SV → Bool
  | .cell c => match S.μ[c]? with
    | some (.node (.dK _) _) => true
    | some (.node (.dT _) _) => true
    | _ => false
  | .node (.dK _) _ => true
  | .node (.dT _) _ => true
  | .dat (.dK _ _) => true
  | .dat (.dT _ _) => true
  | _ => false
theorem isD_ok {K : PySem.W.Frag} {S : Sto} {σ : Sl} {H Φ : Hp} {A F G : List Addr} {v : V} {x : SV} {U : List Addr} (st : Stands K S σ H Φ A F G) (h : RS K Φ H A v x U) (e : x.isD S = true) : ∃ a, v = .ref a ∧ IsD H a := by
  cases x with
  | dat d =>
    cases h with
    | dat q =>
      cases d <;> try cases e
      · cases q with
        | dK rd hl rr => exact ⟨_, rfl, .inl ⟨_, Rd.mono st.le rd⟩⟩
      · cases q with
        | dT rd hl rr => exact ⟨_, rfl, .inr ⟨_, Rd.mono st.le rd⟩⟩
  | node n xs =>
    cases h with
    | node ea f pa q =>
      cases n <;> try cases e
      · exact ⟨_, rfl, .inl ⟨_, .inl ea⟩⟩
      · exact ⟨_, rfl, .inr ⟨_, .inl ea⟩⟩
  | cell c =>
    cases h with
    | cell hc =>
      unfold SV.isD at e
      dsimp only at e
      cases em : S.μ[c]? with
      | none => rw [em] at e; cases e
      | some x =>
        rw [em] at e
        obtain ⟨a, F1, Fi, F2, e1, e2, rs, _⟩ := st.rc.at em
        rw [hc] at e1; cases e1
        cases x with
        | dat d => cases e
        | cell c => cases e
        | node n xs =>
          cases rs with
          | node ea f pa q =>
            cases n <;> try cases e
            · exact ⟨_, rfl, .inl ⟨_, .inl ea⟩⟩
            · exact ⟨_, rfl, .inr ⟨_, .inl ea⟩⟩
def fDGet1 (fo fe : FE) : FE := bindE fo fun ro S1 => if ((ro.sv S1).map fun x => x.isD S1) = some true then bindE fe (fun re S2 => (re.peek S2).bind fun k => (dgetR ro k S2).map fun o => .ok (o.getD (.d .non)) S2) S1 else none
def fDGet2 (fo fe fx : FE) : FE := bindE fo fun ro S1 => if ((ro.sv S1).map fun x => x.isD S1) = some true then bindE fe (fun re => bindE fx fun rx S3 => (re.peek S3).bind fun k => (dgetR ro k S3).map fun o => .ok (o.getD rx) S3) S1 else none
theorem ev_dget1 {K : PySem.W.Frag} (ho : EV K W to fo) (he : EV K W te fe) : EV K W (tDGet1 to te) (fDGet1 fo fe) := fun S σ H Φ A F G st out h Q q => by
  refine run1 (t := to) ho st h q.x fun ro S1 x H1 Φ1 A1 T F1 G1 sp st1 rv nd fz h1 => ?_
  by_cases hs : ((ro.sv S1).map fun x => x.isD S1) = some true
  · rw [if_pos hs] at h1
    cases ex : ro.sv S1 with
    | none => rw [ex] at hs; cases hs
    | some y =>
      rw [ex] at hs
      obtain ⟨U, qa, _⟩ := rv.rs st1 ex
      obtain ⟨a, rfl, d1⟩ := isD_ok st1 qa (Option.some.inj hs)
      refine ⟨a, rfl, d1, run1 (t := te) he st1 h1 (fun e S' eo => (q.x e S' eo).at sp fz) fun re S2 y H2 Φ2 A2 U F2 G2 sp2 st2 rv2 nd2 fz2 h2 => ?_⟩
      have rv' := rv.step st1 nd sp2.drop fz2
      cases ek : re.peek S2 with
      | none => rw [ek] at h2; cases h2
      | some k =>
        rw [ek, Option.bind_some] at h2
        cases eg : dgetR ro k S2 with
        | none => rw [eg] at h2; cases h2
        | some o =>
          rw [eg] at h2; cases h2
          obtain ⟨a', ov, hv, dg, cs⟩ := dgetR_ok st2 rv' (rv2.rp st2 ek) eg
          cases hv
          refine ⟨ov, dg, ?_⟩
          have s12 : Step F G H Φ A F2 G2 H2 Φ2 A2 := sp.drop.trans0 sp2.drop
          rcases cs with ⟨rfl, rfl⟩ | ⟨z, w, rfl, rfl, qz⟩
          · exact q _ H2 Φ2 A2 [] F2 G2 s12 st2 (RS.dat .non) (by simpa using st2.nd) (fz.trans fz2)
          · exact q w H2 Φ2 A2 [] F2 G2 s12 st2 qz (by simpa using st2.nd) (fz.trans fz2)
  · rw [if_neg hs] at h1; cases h1
theorem de_dget1 (hu : X.A.units + 1 < cLine) (ho : DE X W o to fo) (he : DE X W e te fe) (hbase : attributeBase o "get" X.env (eval o X.env) = eval o X.env := by rfl)
    (hfew : ((backTo cpos (starEach [e] X.env)).all (fun x => !x.1) && (backToKw cpos (keywordEach [] X.env)).all (fun x => x.1.isSome) && decide (([e] : List Expr).length + ([] : List Keyword).length + (if ([] : List Keyword).isEmpty then 0 else 1) < 30)) = true := by rfl)
    (hline : (apos.endLine == cpos.line) = true := by rfl) (htrees : backTo cpos (starEach [e] X.env) = [(false, eval e X.env)] := by rfl) :
    DE X W (.Call (.Attribute o "get" apos) [e] [] cpos) (tDGet1 to te) (fDGet1 fo fe) := ⟨pe_dget1 hu ho.pe he.pe ⟨hbase, hfew, hline, htrees⟩, ev_dget1 ho.ev he.ev⟩
end
end L3

namespace L3
open PySem PySem.Spec PyProof.Rows L2

/-! ### a list that grows by another one's items -/
section
variable {K : PySem.W.Frag} {W : WX} {S S' : Sto} {σ : Sl} {H Φ : Hp} {A F G T : List Addr} {v : V} {r : R}
/-- the items of a list that the program made, each frozen -/
def R.itl (S : Sto) (r : R) : Option (List D) := match r.sv S with
  | some (.dat (.lst ds)) => some ds
  | some (.node .lst xs) => match r with
    | .val _ => peeks xs
    | .bor _ _ => dats xs
  | _ => none
theorem itl_ok (st : Stands K S σ H Φ A F G) (h : RV K Φ H A S σ v r T) (nd : (T ++ (F ++ G)).Nodup) {ds : List D} (e : r.itl S = some ds) :
    ∃ Φ' a vs, v = .ref a ∧ H a = some (.lst vs) ∧ Rps K Φ' vs ds ∧ Step (T ++ F) G H Φ A F G H Φ' A ∧ Stands K S σ H Φ' A F G := by
  have stay : Step (T ++ F) G H Φ A F G H Φ A := ⟨fun _ _ e _ => e, fun _ _ e => e, fun _ _ e => .inl e, fun b hb => .inl (List.mem_append_right _ hb), fun _ h => .inl h, fun _ h => h, Pfx.refl⟩
  unfold R.itl at e
  cases ex : r.sv S with
  | none => rw [ex] at e; cases e
  | some x =>
    rw [ex] at e
    cases x with
    | cell k => cases e
    | dat d =>
      have rp := RV.dat st h ex
      cases d <;> try cases e
      cases rp with
      | lst q q2 => exact ⟨Φ, _, _, rfl, st.le _ _ q, q2, stay, st⟩
    | node n xs =>
      cases n <;> try cases e
      cases r with
      | val y =>
        cases ex
        have e2 : peeks xs = some ds := e
        have hR : RS K Φ H A v (.node .lst xs) T := h
        obtain ⟨s1, s2⟩ := st.frz (RV.there h) nd
        cases hR with
        | node ea f pa q =>
          exact ⟨_, _, _, rfl, ea, RSs.freeze (fun b hb => (RV.there h b hb).2) q e2 (fun b hb => List.mem_cons_of_mem _ hb), s2, s1⟩
      | bor i p =>
        have e2 : dats xs = some ds := e
        obtain ⟨U, q, _⟩ := RV.rs st h ex
        cases q with
        | node ea f pa q => exact ⟨Φ, _, _, rfl, ea, dats_rps q e2, stay, st⟩
def extAt (ro : R) (ds : List D) (S : Sto) : Option Sto := match ro with
  | .bor i p => match S.sub i p with
    | some (.node .lst xs) => if xs.length + ds.length ≤ 1000000 then S.putp i p (.own (xs ++ ds.map SV.dat)) else none
    | _ => none
  | _ => none
theorem rss_app {A : List Addr} {vs ws : List V} {xs ys : List SV} {U V' : List Addr} (q : RSs K Φ H A vs xs U) (r : RSs K Φ H A ws ys V') : RSs K Φ H A (vs ++ ws) (xs ++ ys) (U ++ V') := RSs.app q r
theorem ext_core {ro : R} {ds : List D} {zs : List V} {S4 : Sto} (st : Stands K S σ H Φ A F G) (ro3 : RV K Φ H A S σ v ro T) (rr : Rps K Φ zs ds) (ep : extAt ro ds S = some S4) :
    ∃ a vs, v = .ref a ∧ H a = some (.lst vs) ∧ vs.length + zs.length ≤ sizeLine ∧ ∃ F4, Stands K S4 σ (upd H a (.lst (vs ++ zs))) Φ A F4 G ∧ Run F G H Φ A F4 G (upd H a (.lst (vs ++ zs))) Φ A := by
  unfold extAt at ep
  cases ro with
  | val z => cases ep
  | bor i p =>
    dsimp only at ep
    cases es : S.sub i p with
    | none => rw [es] at ep; cases ep
    | some z =>
      rw [es] at ep
      cases z with
      | dat d => cases ep
      | cell c => cases ep
      | node n ys =>
        cases n <;> try cases ep
        dsimp only at ep
        by_cases hl : ys.length + ds.length ≤ 1000000
        · rw [if_pos hl] at ep
          obtain ⟨a, vs, Fx, rfl, ea, f, qs, hF, ndx, up⟩ := mut_slot st es ro3
          have hl' : vs.length + zs.length ≤ sizeLine := by rw [qs.length, rr.length]; exact k1000000 hl
          have nea : ∀ b, b ∈ Fx → b ≠ a := fun b hb z => by
            subst z; exact (List.nodup_cons.mp ndx).1 hb
          have rs' : RSs K Φ (upd H a (Nd.lst.ho (vs ++ zs))) A (vs ++ zs) (ys ++ ds.map SV.dat) Fx := by
            have := rss_app (qs.frame (Φ' := Φ) (H' := upd H a (Nd.lst.ho (vs ++ zs))) (A' := A) (Same.refl _) Pfx.refl (fun b hb => upd_ne (nea b hb)) (fun b hb => (qs.there b hb).2)) (rss_dat (H := upd H a (Nd.lst.ho (vs ++ zs))) (A := A) rr)
            simpa using this
          obtain ⟨F4, st4, rn4⟩ := up (n' := .lst) (T' := []) (by simpa using st.nd) (fun b hb => by cases hb) ⟨trivial, trivial⟩ rs' (fun b hb => .inl hb) (List.nodup_cons.mp ndx).2 ep
          exact ⟨a, vs, rfl, ea, hl', F4, st4, rn4⟩
        · rw [if_neg hl] at ep; cases ep
end
def fExtend (fo fe : FE) : FS := bindS fo fun ro S1 => match ro.sv S1 with
  | some (.node .lst _) => bindS fe (fun re S2 => match re.itl S2 with
    | some ds => (extAt ro ds S2).map SO.nx
    | none => none) S1
  | _ => none
theorem ev_extend {K : PySem.W.Frag} {W : WX} {to te : TE} {fo fe : FE} (ho : EV K W to fo) (he : EV K W te fe) :
    SEV K W (fun D σ H => to σ H fun x H1 => tyV K "list" x H1 ∧ te σ H1 fun y H2 => rExtend x [y] H2 fun _ H3 => D.nx σ H3) (fExtend fo fe) := fun S σ H Φ A F G st out h D q => by
  refine runS (t := to) ho st h q fun ro S1 v H1 Φ1 A1 T F1 G1 sp st1 rv nd h1 => ?_
  cases ex : ro.sv S1 with
  | none => rw [ex] at h1; cases h1
  | some x =>
    rw [ex] at h1
    cases x with
    | dat d => cases h1
    | cell c => cases h1
    | node n xs =>
      cases n <;> try cases h1
      obtain ⟨U, rs, _⟩ := rv.rs st1 ex
      have hty : tyV K "list" v H1 := by
        cases rs with
        | node ea f pa qs => exact .inl ⟨rfl, _, .inl (.inl ea)⟩
      have h1 : bindS fe (fun re S2 => match re.itl S2 with
        | some ds => (extAt ro ds S2).map SO.nx
        | none => none) S1 = some out := h1
      refine ⟨hty, runS2 (t := te) he st1 h1 (q.at sp.drop.run) fun re S2 y H2 Φ2 A2 T2 F2 G2 sp2 st2 rv2 nd2 fz2 q2 h2 => ?_⟩
      cases ei : re.itl S2 with
      | none => rw [ei] at h2; cases h2
      | some ds =>
        rw [ei] at h2
        have h2 : (extAt ro ds S2).map SO.nx = some out := h2
        have ro2 := RV.step st1 rv nd sp2.drop fz2
        obtain ⟨Φ3, b, zs, rfl, eb, rr, sp3, st3⟩ := itl_ok st2 rv2 nd2 ei
        have ro3 : RV K Φ3 H2 A2 S2 σ v ro T := by
          cases ro with
          | val z => cases h2
          | bor i p => exact ro2
        cases ep : extAt ro ds S2 with
        | none => rw [ep] at h2; cases h2
        | some S4 =>
          rw [ep] at h2; cases h2
          obtain ⟨a, vs, rfl, ea, hl, F4, st4, rn4⟩ := ext_core st3 ro3 rr ep
          exact ⟨a, b, vs, zs, rfl, rfl, ea, eb, hl, ((q.at sp.drop.run).at (sp2.trans0 sp3).run) σ _ Φ3 A2 F4 G2 rn4 st4⟩
section
variable {X : Cx} {W : WX} {o e : Expr} {pos apos cpos : Pos} {to te : TE} {fo fe : FE}
theorem ds_extend (ho : DE X W o to fo) (he : DE X W e te fe) (hs : swapsWith (.Call (.Attribute o "extend" apos) [e] [] cpos) none pos.line X.env = pure false := by rfl)
    (hbase : attributeBase o "extend" X.env (eval o X.env) = eval o X.env := by rfl)
    (hfew : ((backTo cpos (starEach [e] X.env)).all (fun x => !x.1) && (backToKw cpos (keywordEach [] X.env)).all (fun x => x.1.isSome)
      && decide ([e].length + ([] : List Keyword).length + (if ([] : List Keyword).isEmpty then 0 else 1) < 30)) = true := by rfl)
    (hline : (apos.endLine == cpos.line) = true := by rfl) (hst : starEach [e] X.env = (false, eval e X.env) :: starEach [] X.env := by rfl) (hplain : (backTo cpos (starEach [] X.env)).any (·.1) = false := by rfl) :
    DS X W (.Expr (.Call (.Attribute o "extend" apos) [e] [] cpos) pos) (tDrop (tBM X.K "list" rExtend to (tCons te tNil))) (fExtend fo fe) :=
  ⟨ps_expr (pe_bm PySem.F.plainAttrs_list PySem.F.slot_list_extend PySem.F.type_list_extend mt_extend ho.pe (pa_cons he.pe pa_nil hst) hbase hfew hline hst hplain) hs, ev_extend ho.ev he.ev⟩
/-! x += e: a number, a text; a list of its own -/
def fAugA (i : Nat) (fe : FE) : FS := fun S => match S.ρ[i]? with
  | some (some (.node .lst _)) => bindS fe (fun re S1 => match re.itl S1 with
    | some ds => (extAt (.bor i []) ds S1).map SO.nx
    | none => none) S
  | _ => fAug i gAdd2 fe S
theorem ev_augA {K : PySem.W.Frag} {i : Nat} (he : EV K W te fe) : SEV K W (tAug i te (fun x y H Q => rExt2 x y H Q ∨ rAdd2 x y H Q)) (fAugA i fe) := fun S σ H Φ A F G st out ho D q => by
  unfold fAugA at ho
  have gen : fAug i gAdd2 fe S = some out → tAug i te (fun x y H Q => rExt2 x y H Q ∨ rAdd2 x y H Q) D σ H := fun ho => by
    have hg : OpG K (fun x y H Q => rExt2 x y H Q ∨ rAdd2 x y H Q) gAdd2 := fun S σ H Φ A F G x y ra rb T U st rx ry nd rz S' e Q q => .inr (og_add2 S σ H Φ A F G x y ra rb T U st rx ry nd rz S' e Q q)
    exact ev_aug hg he S σ H Φ A F G st out ho D q
  cases e0 : S.ρ[i]? with
  | none => rw [e0] at ho; exact gen ho
  | some o0 =>
    cases o0 with
    | none => rw [e0] at ho; exact gen ho
    | some x0 =>
      cases x0 with
      | dat d => rw [e0] at ho; exact gen ho
      | cell c => rw [e0] at ho; exact gen ho
      | node n xs =>
        cases n <;> try (rw [e0] at ho; exact gen ho)
        rw [e0] at ho
        dsimp only at ho
        obtain ⟨v0, F1, Fi, F2, e3, _⟩ := st.ro.at e0
        refine ⟨v0, e3, runS2 (t := te) he st ho q fun re S1 y H1 Φ1 A1 T F1 G1 sp st1 rv nd fz q1 h1 => ?_⟩
        cases ei : re.itl S1 with
        | none => rw [ei] at h1; cases h1
        | some ds =>
          rw [ei] at h1
          have h1 : (extAt (.bor i []) ds S1).map SO.nx = some out := h1
          obtain ⟨Φ3, b, zs, rfl, eb, rr, sp3, st3⟩ := itl_ok st1 rv nd ei
          have rb : RV K Φ3 H1 A1 S1 σ v0 (.bor i []) [] := ⟨rfl, v0, e3, fun _ => rfl, fun _ _ => .nil⟩
          cases ep : extAt (.bor i []) ds S1 with
          | none => rw [ep] at h1; cases h1
          | some S4 =>
            rw [ep] at h1; cases h1
            obtain ⟨a, vs, rfl, ea, hl, F4, st4, rn4⟩ := ext_core st3 rb rr ep
            have eσ : σ.set i (some (.ref a)) = σ := by
              obtain ⟨hk, ev⟩ := List.getElem?_eq_some_iff.mp e3
              rw [← ev]; exact List.set_getElem_self hk
            refine .inl ⟨a, b, vs, zs, rfl, rfl, ea, eb, hl, ?_⟩
            have z := (q.at (sp.trans0 sp3).run) σ _ Φ3 A1 F4 G1 rn4 st4
            show D.nx (σ.set i (some (.ref a))) _
            rw [eσ]; exact z
theorem ds_augA {i : Nat} {x : Str} {pos' : Pos} (hN : X.N.Nodup) (he : DE X W e te fe) (hi : X.N[i]? = some x := by rfl) (hx : Loc X.env.scope x := by first | exact Or.inl rfl | exact Or.inr rfl)
    (hf : X.fn x = true ∨ X.env.scope.names.lookup x = some .local := by first | exact .inl rfl | exact .inr rfl) : DS X W (.AugAssign (.Name x pos') .Add e pos) (tAug i te (fun x y H Q => rExt2 x y H Q ∨ rAdd2 x y H Q)) (fAugA i fe) := ⟨ps_aug hN hi hx he.pe (iop_ext.or iop_add2) hf, ev_augA he.ev⟩
end
end L3

/-! zip(a, b, strict=True) over what draws: as many turns as both have. -/
namespace L3
open PySem PySem.Spec PyProof.Rows L2

abbrev ZipS (h : Heap) (z TI TO : Addr) (f0 : Value) : Prop := h.get? z = some { cls := .type "zip", data := .fields #[f0, .bool false, .bool true, .ref TI, .ref TO] }
section
variable {prog : Program} {w : World} {A : Around} {E : Value → Shared → Prop} {s : Shared} {z TI TO j1 j2 : Addr} {u v : List Addr} {n i : Nat} {P1 P2 : Nat → Value → Prop} {St1 St2 : Nat → Heap → Prop} {c1 c2 : Value}
theorem zs_next_item {Q : Value → Shared → Prop} (S : ZipSep2 z TI TO j1 j2 u v) (D1 : Draws prog w A j1 u n P1 St1) (D2 : Draws prog w A j2 v n P2 St2)
    (hz : ZipS s.heap z TI TO .none) (eI : IsTupOf2 s.heap TI (.ref j1) (.ref j2)) (eO : IsTupOf2 s.heap TO c1 c2) (a1 : St1 i s.heap) (a2 : St2 i s.heap) (hi : i < n)
    (hQ : ∀ x y h' tk, P1 i x → P2 i y → ZipS h' z TI TO (rawInt s.heap.objs.size) → IsTupOf2 h' TO x y → St1 (i + 1) h' → St2 (i + 1) h' → IsTupOf2 h' s.heap.objs.size x y → h'.objs.size = s.heap.objs.size + 1 →
      (∀ c o, c ≠ z → c ≠ TO → c ≠ j1 → c ≠ j2 → s.heap.get? c = some o → h'.get? c = some o) → Q (.ref s.heap.objs.size) { s with heap := h', toks := tk }) :
    wpAny (model prog w) A (Builtin.«zip.__next__» ⟨[.ref z], []⟩) (fun fin s' => ∃ r, fin = .done (.ret r) ∧ Q r s') E s := by
  obtain ⟨k0, gg, dd, t0, ss⟩ := s
  show wpAny _ _ (field (.ref z) 2 >>= _) _ _ _
  refine wpAny_bind (wpAny_field hz rfl (x := .bool true) rfl ?_)
  show wpAny _ _ (field (.ref z) 3 >>= _) _ _ _
  refine wpAny_bind (wpAny_field hz rfl (x := .ref TI) rfl (wpAny_bind (wpAny_seqItems eI rfl ?_)))
  show wpAny _ _ (Builtin.SmallTypes.ownedTupleIsFree (.ref z) >>= _) _ _ _
  refine wpAny_bind ?_
  unfold Builtin.SmallTypes.ownedTupleIsFree
  refine wpAny_bind (wpAny_field hz rfl (x := .none) rfl (wpAny_pure ?_))
  simp only [if_true]
  refine wpAny_bind (wpAny_rule (wpAny_bind (wpAny_field hz rfl (x := .ref TO) rfl (wpAny_bind (wpAny_setField_rec hz (by simp) fun k1 z1 b1 => ?_)))))
  replace z1 : ZipS k1 z TI TO .ellipsis := z1
  replace b1 : Heap.SameBut z k0 k1 := b1
  refine wpAny_bind ?_
  simp only [List.zipIdx_cons, List.zipIdx_nil, List.forIn_cons, List.forIn_nil]
  refine wpAny_bind (wpAny_bind (wpAny_onRaise ?_))
  show wpAny _ _ (Builtin.SmallTypes.nextOrEnd (.ref j1)) _ _ ⟨k1, gg, dd, t0, ss⟩
  unfold Builtin.SmallTypes.nextOrEnd
  refine wpAny_bind (wpAny_attempt (D1.item i _ _ _ hi (D1.over a1 b1 S.zf1) fun x k2 t1 px n1 b2 => wpAny_pure ?_))
  replace b2 : Heap.SameBut j1 k1 k2 := b2
  have q1 : IsTupOf2 k2 TO c1 c2 := b2.extBut _ _ S.Ti1 (b1.extBut _ _ S.TOz eO)
  refine wpAny_bind (wpAny_seqItems (s := ⟨k2, gg, dd, t1, ss⟩) q1 rfl (wpAny_bind (updateSeq_IsTupOf2 (s := ⟨k2, gg, dd, t1, ss⟩) q1 fun k3 q2 b3 => ?_)))
  replace q2 : IsTupOf2 k3 TO x c2 := q2
  replace b3 : Heap.SameBut TO k2 k3 := b3
  refine wpAny_bind (wpAny_letGo (wpAny_pure (wpAny_bind (wpAny_bind (wpAny_onRaise ?_)))))
  show wpAny _ _ (Builtin.SmallTypes.nextOrEnd (.ref j2)) _ _ ⟨k3, gg, dd, t1, ss⟩
  unfold Builtin.SmallTypes.nextOrEnd
  refine wpAny_bind (wpAny_attempt (D2.item i _ _ _ hi (D2.over (D2.over (D2.over a2 b1 S.zf2) b2 S.sep1_2) b3 S.Tf2) fun y k4 t2 py n2 b4 => wpAny_pure ?_))
  replace b4 : Heap.SameBut j2 k3 k4 := b4
  have q3 : IsTupOf2 k4 TO x c2 := b4.extBut _ _ S.Ti2 q2
  refine wpAny_bind (wpAny_seqItems (s := ⟨k4, gg, dd, t2, ss⟩) q3 rfl (wpAny_bind (updateSeq_IsTupOf2 (s := ⟨k4, gg, dd, t2, ss⟩) q3 fun k5 q4 b5 => ?_)))
  replace q4 : IsTupOf2 k5 TO x y := q4
  replace b5 : Heap.SameBut TO k4 k5 := b5
  refine wpAny_bind (wpAny_letGo (wpAny_pure (wpAny_pure (wpAny_bind (wpAny_seqItems (s := ⟨k5, gg, dd, t2, ss⟩) q4 rfl (wpAny_bind (wpAny_newTuple ?_)))))))
  have e5 : k5.objs.size = k0.objs.size := by rw [b5.1, b4.1, b3.1, b2.1, b1.1]
  have z5 : ZipS k5 z TI TO .ellipsis := b5.extBut _ _ S.TOz.symm (b4.extBut _ _ S.zi2 (b3.extBut _ _ S.TOz.symm (b2.extBut _ _ S.zi1 z1)))
  have old : ∀ c o, c ≠ z → c ≠ TO → c ≠ j1 → c ≠ j2 → k0.get? c = some o → k5.get? c = some o := fun c o h1 h2 h3 h4 e =>
    b5.extBut _ _ h2 (b4.extBut _ _ h4 (b3.extBut _ _ h2 (b2.extBut _ _ h3 (b1.extBut _ _ h1 e))))
  have m1 : St1 (i + 1) k5 := D1.over (D1.over (D1.over n1 b3 S.Tf1) b4 S.sep2_1) b5 S.Tf1
  have m2 : St2 (i + 1) k5 := D2.over n2 b5 S.Tf2
  have zlt : z < k5.objs.size := Heap.lt_size z5
  show wpAny _ _ (Builtin.SmallTypes.ownedTupleHandOut (.ref z) (.ref k5.objs.size) >>= _) _ _ ⟨k5.push { cls := .type "tuple", data := .seq #[x, y] }, gg, dd, t2, ss⟩
  refine wpAny_bind ?_
  unfold Builtin.SmallTypes.ownedTupleHandOut
  have z6 : ZipS (k5.push { cls := .type "tuple", data := .seq #[x, y] }) z TI TO .ellipsis := Heap.get?_push_of_some _ z5
  refine wpAny_bind (wpAny_setField_rec z6 (by simp) fun k7 z7 b7 => ?_)
  replace z7 : ZipS k7 z TI TO (rawInt k5.objs.size) := z7
  refine wpAny_setField_rec z7 (by simp) fun k8 z8 b8 => ?_
  replace z8 : ZipS k8 z TI TO (rawInt k5.objs.size) := z8
  replace b7 : Heap.SameBut z (k5.push { cls := .type "tuple", data := .seq #[x, y] }) k7 := b7
  replace b8 : Heap.SameBut z k7 k8 := b8
  have up : ∀ c o, c ≠ z → k5.get? c = some o → k8.get? c = some o := fun c o h e => b8.extBut _ _ h (b7.extBut _ _ h (Heap.get?_push_of_some _ e))
  have q8 : IsTupOf2 k8 k5.objs.size x y := b8.extBut _ _ (Nat.ne_of_gt zlt) (b7.extBut _ _ (Nat.ne_of_gt zlt) (Heap.get?_push_size _ rfl))
  have e8 : k8.objs.size = k5.objs.size + 1 := by rw [b8.1, b7.1, Heap.size_push]
  rw [e5] at z8 q8 e8
  refine wpAny_pure ⟨_, rfl, ?_⟩
  show Q (.ref k5.objs.size) ⟨k8, gg, dd, t2, ss⟩
  rw [e5]
  exact hQ x y k8 t2 px py z8 (up _ _ S.TOz q4) (D1.frame _ _ _ m1 fun b hb o e => up b o (fun q => S.zf1 (q ▸ hb)) e) (D2.frame _ _ _ m2 fun b hb o e => up b o (fun q => S.zf2 (q ▸ hb)) e) q8 e8 fun c o h1 h2 h3 h4 e => up c o h1 (old c o h1 h2 h3 h4 e)
theorem wp_yes {α : Type} {M : Model} {c : Prop} [Decidable c] {x y : Sem α} {Q : α → Shared → Prop} (h : c) (q : wpAny M A x Q E s) : wpAny M A (if c then x else y) Q E s := by rw [if_pos h]; exact q
/-- a StopIteration of the program's own raising, nothing being handled -/
theorem wp_stop {α : Type} {Q : α → Shared → Prop} (hh : A.handled = none) (h : ∀ h' e, (∀ c o, s.heap.get? c = some o → h'.get? c = some o) → (∃ o, h'.get? e = some o ∧ o.cls = .type "StopIteration") → E (.ref e) { s with heap := h' }) :
    wpAny (model prog w) A (Builtin.SmallTypes.stopIteration) Q E s := by
  unfold Builtin.SmallTypes.stopIteration
  refine wpAny_bind ?_
  simp only [newExc, newTuple]
  refine wpAny_bind (wpAny_newObj_type ?_ (by size_fits))
  refine wpAny_bind (wpAny_of_eq (a := Value.none) (by first | rfl | (simp only [firstArgMember]; rfl)) ?_)
  refine wpAny_newObj_type ?_ (by size_fits)
  simp only [raiseNew]
  refine wpAny_bind (wpAny_handled ?_)
  rw [hh]
  exact wpAny_bind (wpAny_pure (wpAny_throw (h _ _ (fun c o e => Heap.get?_push_of_some _ (Heap.get?_push_of_some _ e)) ⟨_, Heap.get?_push_size _ rfl, rfl⟩)))
theorem zs_next_end {Q : Fin → Shared → Prop} (S : ZipSep2 z TI TO j1 j2 u v) (D1 : Draws prog w A j1 u n P1 St1) (D2 : Draws prog w A j2 v n P2 St2) (hh : A.handled = none)
    (hz : ZipS s.heap z TI TO .none) (eI : IsTupOf2 s.heap TI (.ref j1) (.ref j2)) (eO : IsTupOf2 s.heap TO c1 c2) (a1 : St1 n s.heap) (a2 : St2 n s.heap)
    (hE : ∀ h' tk e, (∀ c o, c ≠ z → c ≠ TO → c ≠ j1 → c ≠ j2 → s.heap.get? c = some o → h'.get? c = some o) → (∃ o, h'.get? e = some o ∧ o.cls = .type "StopIteration") → E (.ref e) { s with heap := h', toks := tk }) :
    wpAny (model prog w) A (Builtin.«zip.__next__» ⟨[.ref z], []⟩) Q E s := by
  obtain ⟨k0, gg, dd, t0, ss⟩ := s
  show wpAny _ _ (field (.ref z) 2 >>= _) _ _ _
  refine wpAny_bind (wpAny_field hz rfl (x := .bool true) rfl ?_)
  show wpAny _ _ (field (.ref z) 3 >>= _) _ _ _
  refine wpAny_bind (wpAny_field hz rfl (x := .ref TI) rfl (wpAny_bind (wpAny_seqItems eI rfl ?_)))
  show wpAny _ _ (Builtin.SmallTypes.ownedTupleIsFree (.ref z) >>= _) _ _ _
  refine wpAny_bind ?_
  unfold Builtin.SmallTypes.ownedTupleIsFree
  refine wpAny_bind (wpAny_field hz rfl (x := .none) rfl (wpAny_pure ?_))
  simp only [if_true]
  refine wpAny_bind (wpAny_rule (wpAny_bind (wpAny_field hz rfl (x := .ref TO) rfl (wpAny_bind (wpAny_setField_rec hz (by simp) fun k1 z1 b1 => ?_)))))
  replace z1 : ZipS k1 z TI TO .ellipsis := z1
  replace b1 : Heap.SameBut z k0 k1 := b1
  refine wpAny_bind ?_
  simp only [List.zipIdx_cons, List.zipIdx_nil, List.forIn_cons, List.forIn_nil]
  refine wpAny_bind (wpAny_bind (wpAny_onRaise ?_))
  show wpAny _ _ (Builtin.SmallTypes.nextOrEnd (.ref j1)) _ _ ⟨k1, gg, dd, t0, ss⟩
  unfold Builtin.SmallTypes.nextOrEnd
  refine wpAny_bind (wpAny_attempt (D1.done _ _ _ (D1.over a1 b1 S.zf1) fun k2 x hk2 hx => ?_))
  replace hk2 : Heap.ExtBut j1 k1 k2 := hk2
  obtain ⟨ox, hox, hcx⟩ := hx
  refine wpAny_bind (wpAny_isInstance (T := "StopIteration") (b := true) ⟨ox, hox, hcx⟩ isSubtype_stop ?_)
  simp only [if_true]
  refine wpAny_pure ?_
  have z2 : ZipS k2 z TI TO .ellipsis := hk2 _ _ S.zi1 z1
  refine wpAny_bind (wpAny_setField_rec (s := ⟨k2, gg, dd, t0, ss⟩) z2 (by simp) fun k3 z3 b3 => ?_)
  replace b3 : Heap.SameBut z k2 k3 := b3
  refine wpAny_bind ?_
  show wpAny _ _ (do
    forIn ((List.drop 1 [Value.ref j1, Value.ref j2]).zipIdx 1) PUnit.unit fun (x : Value × Nat) (_ : PUnit) => (do
      let l ← Builtin.SmallTypes.nextOrEnd x.1
      if l.isSome = true then _ else pure (ForInStep.yield PUnit.unit))
    PySem.rule "zip.__next__.all-ended"
    Builtin.SmallTypes.stopIteration) _ _ _
  simp only [List.drop_succ_cons, List.drop_zero, List.zipIdx_cons, List.zipIdx_nil, List.forIn_cons, List.forIn_nil]
  unfold Builtin.SmallTypes.nextOrEnd
  have m2 : St2 n k3 := D2.frame _ _ _ a2 fun b hb o e => b3.extBut _ _ (fun q => S.zf2 (q ▸ hb)) (hk2 _ _ (fun q => S.sep1_2 (q ▸ hb)) (b1.extBut _ _ (fun q => S.zf2 (q ▸ hb)) e))
  refine wpAny_bind (wpAny_bind (wpAny_bind (wpAny_bind (wpAny_attempt (D2.done ⟨k3, gg, dd, t0, ss⟩ _ _ m2 fun k4 y hk4 hy => ?_)))))
  replace hk4 : Heap.ExtBut j2 k3 k4 := hk4
  obtain ⟨oy, hoy, hcy⟩ := hy
  refine wpAny_bind (wpAny_isInstance (T := "StopIteration") (b := true) ⟨oy, hoy, hcy⟩ isSubtype_stop ?_)
  simp only [if_true]
  refine wpAny_pure ?_
  simp only [Option.isSome_none, Bool.false_eq_true, if_false]
  refine wpAny_pure (wpAny_pure (wpAny_bind (wpAny_rule ?_)))
  refine wp_stop hh fun k5 e h5 he => hE k5 t0 e (fun c o h1 h2 h3 h4 x => h5 _ _ (hk4 _ _ h4 (b3.extBut _ _ h1 (hk2 _ _ h3 (b1.extBut _ _ h1 x))))) he
theorem zs_pyNext_item {Q : Option Value → Shared → Prop} (S : ZipSep2 z TI TO j1 j2 u v) (D1 : Draws prog w A.in1 j1 u n P1 St1) (D2 : Draws prog w A.in1 j2 v n P2 St2)
    (hz : ZipS s.heap z TI TO .none) (eI : IsTupOf2 s.heap TI (.ref j1) (.ref j2)) (eO : IsTupOf2 s.heap TO c1 c2) (a1 : St1 i s.heap) (a2 : St2 i s.heap) (hi : i < n)
    (hQ : ∀ x y h' tk, P1 i x → P2 i y → ZipS h' z TI TO (rawInt s.heap.objs.size) → IsTupOf2 h' TO x y → St1 (i + 1) h' → St2 (i + 1) h' → IsTupOf2 h' s.heap.objs.size x y → h'.objs.size = s.heap.objs.size + 1 →
      (∀ c o, c ≠ z → c ≠ TO → c ≠ j1 → c ≠ j2 → s.heap.get? c = some o → h'.get? c = some o) → Q (some (.ref s.heap.objs.size)) { s with heap := h', toks := tk }) :
    wpAny (model prog w) A (pyNext (.ref z)) Q E s := by
  have ty : s.TypeIs (.ref z) "zip" := ⟨_, hz, rfl⟩
  unfold pyNext
  refine wpAny_bind (wpAny_attempt (wpAny_callSpecial?_slot (name := Str.ofString "__next__") ty F.slot_zip_next (wpAny_call_entry F.slot_zip_next ty F.entry_zip_next ?_ (F.args_zip_next_1 _))))
  exact zs_next_item S D1 D2 hz eI eO a1 a2 hi fun x y h' tk e1 e2 e3 e4 e5 e6 e7 e8 e9 => wpAny_pure (hQ x y h' tk e1 e2 e3 e4 e5 e6 e7 e8 e9)
theorem zs_pyNext_end {Q : Option Value → Shared → Prop} (S : ZipSep2 z TI TO j1 j2 u v) (D1 : Draws prog w A.in1 j1 u n P1 St1) (D2 : Draws prog w A.in1 j2 v n P2 St2) (hh : A.in1.handled = none)
    (hz : ZipS s.heap z TI TO .none) (eI : IsTupOf2 s.heap TI (.ref j1) (.ref j2)) (eO : IsTupOf2 s.heap TO c1 c2) (a1 : St1 n s.heap) (a2 : St2 n s.heap)
    (hQ : ∀ h' tk, (∀ c o, c ≠ z → c ≠ TO → c ≠ j1 → c ≠ j2 → s.heap.get? c = some o → h'.get? c = some o) → Q none { s with heap := h', toks := tk }) : wpAny (model prog w) A (pyNext (.ref z)) Q E s := by
  have ty : s.TypeIs (.ref z) "zip" := ⟨_, hz, rfl⟩
  unfold pyNext
  refine wpAny_bind (wpAny_attempt (wpAny_callSpecial?_slot (name := Str.ofString "__next__") ty F.slot_zip_next (wpAny_call_entry F.slot_zip_next ty F.entry_zip_next ?_ (F.args_zip_next_1 _))))
  refine zs_next_end S D1 D2 hh hz eI eO a1 a2 fun h' tk e keep ⟨o, ho, hc⟩ => ?_
  exact wpAny_bind (wpAny_isInstance (T := "StopIteration") (b := true) ⟨o, ho, hc⟩ isSubtype_stop (wpAny_pure (hQ _ _ keep)))
theorem zs_go {elts : List Expr} {x1 : Nat} {pos : Pos} {T : Addr} {Q : Unit → Shared → Prop} (hz : ZipS s.heap z TI TO (rawInt T)) (hQ : ∀ h', ZipS h' z TI TO .none → Heap.SameBut z s.heap h' → Q () { s with heap := h' }) :
    wpAny (model prog w) A (letOwnedTupleGo (.Tuple elts x1 pos) (.ref z) (.ref T)) Q E s := by
  unfold letOwnedTupleGo
  refine wpAny_bind (wpAny_load hz ?_)
  refine wp_yes ?_ (wpAny_bind (wpAny_rule (wpAny_setField_rec hz (by simp) fun h' a b => hQ h' a b)))
  simp
end
/-- zip(.., strict=True), as it walks -/
theorem walks_zs {prog : Program} {w : World} {A : Around} {z TI TO j1 j2 : Addr} {u v : List Addr} {n : Nat} {P1 P2 : Nat → Value → Prop} {St1 St2 : Nat → Heap → Prop} (hh : A.in1.handled = none) (S : ZipSep2 z TI TO j1 j2 u v) (D1 : Draws prog w A.in1 j1 u n P1 St1) (D2 : Draws prog w A.in1 j2 v n P2 St2) :
    WalksT prog w A z (z :: TI :: TO :: (u ++ v)) [z, TO, j1, j2] n (fun i vals => ∃ x y, P1 i x ∧ P2 i y ∧ vals = #[x, y])
      (fun i h => ZipS h z TI TO .none ∧ IsTupOf2 h TI (.ref j1) (.ref j2) ∧ (∃ c1 c2, IsTupOf2 h TO c1 c2) ∧ St1 i h ∧ St2 i h)
      (fun i T h => ZipS h z TI TO (rawInt T) ∧ IsTupOf2 h TI (.ref j1) (.ref j2) ∧ (∃ c1 c2, IsTupOf2 h TO c1 c2) ∧ St1 (i + 1) h ∧ St2 (i + 1) h ∧ T ∉ [z, TO, j1, j2]) where
  sub := fun c hc => by
    simp only [List.mem_cons, List.not_mem_nil, or_false] at hc
    rcases hc with rfl | rfl | rfl | rfl
    · simp
    · simp
    · simp [S.mem1]
    · simp [S.mem2]
  frame := fun i h h' ⟨hz, eI, ⟨c1, c2, eO⟩, a1, a2⟩ k => ⟨k z (by simp) _ hz, k TI (by simp) _ eI, ⟨c1, c2, k TO (by simp) _ eO⟩, D1.frame _ _ _ a1 fun b hb => k b (by simp [hb]), D2.frame _ _ _ a2 fun b hb => k b (by simp [hb])⟩
  item := fun i s Q E hi ⟨hz, eI, ⟨c1, c2, eO⟩, a1, a2⟩ hQ => by
    refine zs_pyNext_item S D1 D2 hz eI eO a1 a2 hi fun x y h' tk e1 e2 e3 e4 e5 e6 e7 e8 keep => ?_
    have off : ∀ {c o}, s.heap.get? c = some o → s.heap.objs.size ≠ c := fun e => Nat.ne_of_gt (Heap.lt_size e)
    obtain ⟨_, g1⟩ := D1.live _ _ a1
    obtain ⟨_, g2⟩ := D2.live _ _ a2
    refine hQ s.heap.objs.size #[x, y] h' tk ⟨x, y, e1, e2, rfl⟩ (Nat.le_refl _) ⟨_, e7, rfl, _, rfl⟩ ⟨e3, keep _ _ S.TIz S.TITO S.TIi1 S.TIi2 eI, ⟨_, _, e4⟩, e5, e6, ?_⟩ fun c o hc e => ?_
    · simp [off hz, off eO, off g1, off g2]
    · simp only [List.mem_cons, List.not_mem_nil, or_false, not_or] at hc
      exact keep c o hc.1 hc.2.1 hc.2.2.1 hc.2.2.2 e
  go := fun elts k pos i T s Q E ⟨hz, eI, ⟨c1, c2, eO⟩, a1, a2, _⟩ hQ =>
    zs_go hz fun h' hz' b => hQ h' ⟨hz', b.extBut _ _ S.TIz eI, ⟨c1, c2, b.extBut _ _ S.TOz eO⟩, D1.over a1 b S.zf1, D2.over a2 b S.zf2⟩ fun c o hc e => b.extBut _ _ (fun x => hc (by simp [x])) e
  apart := fun i T h ⟨_, _, _, _, _, q⟩ => q
  done := fun s Q E ⟨hz, eI, ⟨c1, c2, eO⟩, a1, a2⟩ hQ => zs_pyNext_end S D1 D2 hh hz eI eO a1 a2 fun h' tk keep => hQ h' tk fun c o hc e => by
    simp only [List.mem_cons, List.not_mem_nil, or_false, not_or] at hc
    exact keep c o hc.1 hc.2.1 hc.2.2.1 hc.2.2.2 e
  self := fun i s Q E ⟨hz, _⟩ h => by
    have ty : s.TypeIs (.ref z) "zip" := ⟨_, hz, rfl⟩
    refine wpAny_pyIter_slot ty F.slot_zip_iter (wpAny_call_entry F.slot_zip_iter ty F.entry_zip_iter ?_ (F.args_zip_iter_1 _))
    exact wpAny_pure ⟨_, rfl, "zip", _, ty, F.slot_zip_next.lookup, h⟩
end L3

/-! zip, enumerate over lists and tuples, as the layer walks them -/
namespace L3
open PySem PySem.Spec PyProof.Rows L2

theorem typeCall_zs (a b c : Value) : checkTypeCall "zip" ⟨[a, b], [(Str.ofString "strict", c)]⟩ = pure () := by kernel_rfl
theorem newCall_zs (a b c : Value) : checkBuiltinCall "zip.__new__" ⟨[.type "zip", a, b], [(Str.ofString "strict", c)]⟩ = pure () := by kernel_rfl
theorem args_zs (o a b c : Value) : argsOk "object.__init__" ⟨[o, a, b], [(Str.ofString "strict", c)]⟩ := by unfold argsOk; kernel_rfl
abbrev zsA (h : Heap) (o1 o2 : Obj) : Heap := ((h.push o1).push o2).push { cls := .type "tuple", data := .seq #[.ref h.objs.size, .ref (h.push o1).objs.size] }
abbrev zsB (h : Heap) (o1 o2 : Obj) : Heap := (zsA h o1 o2).push { cls := .type "tuple", data := .seq #[.none, .none] }
abbrev zsC (h : Heap) (o1 o2 : Obj) : Heap := (zsB h o1 o2).push { cls := .type "zip", data := .fields #[.none, .bool false, .bool true, .ref ((h.push o1).push o2).objs.size, .ref (zsA h o1 o2).objs.size] }
theorem meets_zs {v1 v2 : Value} {o1 o2 : Obj} {H1 H2 : Heap → Prop} (B1 : Begins v1 o1 H1) (B2 : Begins v2 o2 H2) :
    Meets (Builtin.«zip.__new__» ⟨[.type "zip", v1, v2], [(Str.ofString "strict", .bool true)]⟩) (fun _ R s => (H1 s.heap ∧ H2 s.heap) ∧ R (.ok (.ret (.ref (zsB s.heap o1 o2).objs.size))) { s with heap := zsC s.heap o1 o2 }) :=
  .of_wp fun prog w A R s h => by
    obtain ⟨hp, gg, dd, tk, ss⟩ := s
    obtain ⟨⟨h1, h2⟩, h⟩ := h
    have hs := sub_zip
    have k1 : ∀ {A' : Around} {E : Value → Shared → Prop} {Q : Value → Shared → Prop}, Q (.ref hp.objs.size) ⟨hp.push o1, gg, dd, tk, ss⟩ → wpAny (model prog w) A' (pyIter v1) Q E ⟨hp, gg, dd, tk, ss⟩ := fun q => B1.iter prog w _ _ ⟨hp, gg, dd, tk, ss⟩ _ h1 q
    have k2 : ∀ {A' : Around} {E : Value → Shared → Prop} {Q : Value → Shared → Prop}, Q (.ref (hp.push o1).objs.size) ⟨(hp.push o1).push o2, gg, dd, tk, ss⟩ → wpAny (model prog w) A' (pyIter v2) Q E ⟨hp.push o1, gg, dd, tk, ss⟩ :=
      fun q => B2.iter prog w _ _ ⟨hp.push o1, gg, dd, tk, ss⟩ _ (B2.keeps _ _ h2 fun b o e => Heap.get?_push_of_some _ e) q
    wp_walk using k1, k2
    exact ⟨_, rfl, h⟩
section
variable {prog : Program} {w : World} {A : Around} {E : Value → Shared → Prop} {s : Shared}
theorem zs_begins {v1 v2 : Value} {o1 o2 : Obj} {H1 H2 : Heap → Prop} {Q : Value → Shared → Prop} (B1 : Begins v1 o1 H1) (B2 : Begins v2 o2 H2) (h1 : H1 s.heap) (h2 : H2 s.heap)
    (h : ∀ h', ZipS h' (s.heap.objs.size + 4) (s.heap.objs.size + 2) (s.heap.objs.size + 3) .none → IsTupOf2 h' (s.heap.objs.size + 2) (.ref s.heap.objs.size) (.ref (s.heap.objs.size + 1)) →
      IsTupOf2 h' (s.heap.objs.size + 3) .none .none → h'.get? s.heap.objs.size = some o1 → h'.get? (s.heap.objs.size + 1) = some o2 →
      (∀ c o, s.heap.get? c = some o → h'.get? c = some o) → Q (.ref (s.heap.objs.size + 4)) { s with heap := h' }) :
    wpAny (model prog w) A (call (.type "zip") [v1, v2] [(Str.ofString "strict", .bool true)]) Q E s := by
  refine callType_newKw F.called_zip (by decide) (typeCall_zs _ _ _) (newCall_zs _ _ _) (fun obj => args_zs obj _ _ _) F.entry_zip_new (meets_zs B1 B2) ⟨⟨h1, h2⟩, ?_⟩
  have n1 : (s.heap.push o1).objs.size = s.heap.objs.size + 1 := by rw [Heap.size_push]
  have n2 : ((s.heap.push o1).push o2).objs.size = s.heap.objs.size + 2 := by rw [Heap.size_push, n1]
  have n3 : (zsA s.heap o1 o2).objs.size = s.heap.objs.size + 3 := by rw [Heap.size_push, n2]
  have n4 : (zsB s.heap o1 o2).objs.size = s.heap.objs.size + 4 := by rw [Heap.size_push, n3]
  have up : ∀ {h : Heap} {o : Obj} {c : Addr} {q : Obj}, h.get? c = some q → (h.push o).get? c = some q := fun e => Heap.get?_push_of_some _ e
  have g5 : (zsC s.heap o1 o2).get? (zsB s.heap o1 o2).objs.size = some _ := Heap.get?_push_size _ rfl
  have g4 : (zsC s.heap o1 o2).get? (zsA s.heap o1 o2).objs.size = some _ := up (Heap.get?_push_size _ rfl)
  have g3 : (zsC s.heap o1 o2).get? ((s.heap.push o1).push o2).objs.size = some _ := up (up (Heap.get?_push_size _ rfl))
  have g2 : (zsC s.heap o1 o2).get? (s.heap.push o1).objs.size = some o2 := up (up (up (Heap.get?_push_size _ B2.free)))
  have g1 : (zsC s.heap o1 o2).get? s.heap.objs.size = some o1 := up (up (up (up (Heap.get?_push_size _ B1.free))))
  rw [n4, n3, n2] at g5
  rw [n3] at g4
  rw [n2, n1] at g3
  rw [n1] at g2
  show _ ∧ _
  rw [n4]
  exact ⟨⟨_, g5, rfl⟩, h _ g5 g3 g4 g1 g2 fun c o e => up (up (up (up (up e))))⟩
end

/-! ### a list or a tuple that is walked -/
def SrcOf (t : Bool) (h : Heap) (a : Addr) (items : Array Value) : Prop := if t = true then h.IsTuple a items else h.IsList a items
def ItrOf (t : Bool) (h : Heap) (it a : Addr) (i : Nat) : Prop := if t = true then h.IsTupleIter it a i else h.IsListIter it a i
def itrObj (t : Bool) (a : Addr) : Obj := { cls := .type (if t = true then "tuple_iterator" else "list_iterator"), data := .fields #[.ref a, .int 0 0] }
theorem begins_src (t : Bool) (a : Addr) (items : Array Value) : Begins (.ref a) (itrObj t a) fun h => SrcOf t h a items := by
  cases t
  · exact begins_list a items
  · exact begins_tuple a items
theorem itr_of {t : Bool} {h : Heap} {it a : Addr} (e : h.get? it = some (itrObj t a)) : ItrOf t h it a 0 := by
  cases t
  · exact ⟨_, e, rfl, rfl⟩
  · exact ⟨_, e, rfl, rfl⟩
theorem ItrOf.at {t : Bool} {h h' : Heap} {it a : Addr} {i : Nat} (x : ItrOf t h it a i) (k : ∀ o, h.get? it = some o → h'.get? it = some o) : ItrOf t h' it a i := by
  cases t
  · exact Heap.IsListIter.at x k
  · exact Heap.IsTupleIter.at x k
theorem ItrOf.obj {t : Bool} {h : Heap} {it a : Addr} {i : Nat} (x : ItrOf t h it a i) : ∃ o, h.get? it = some o ∧ ∀ v, o.data ≠ .cell v := by
  cases t
  · obtain ⟨o, e, _, d⟩ := x; exact ⟨o, e, fun v z => by rw [d] at z; cases z⟩
  · obtain ⟨o, e, _, d⟩ := x; exact ⟨o, e, fun v z => by rw [d] at z; cases z⟩
theorem draws_src {prog : Program} {w : World} {A : Around} (t : Bool) (hh : A.handled = none) (it a : Addr) (hne : a ≠ it) (items : Array Value) :
    Draws prog w A it [it, a] items.size (fun i v => items[i]? = some v) (fun i h => ItrOf t h it a i ∧ SrcOf t h a items) := by
  cases t
  · exact Draws.list hh it a hne items
  · exact Draws.tuple hh it a hne items
theorem inv_src {X : Cx} {pins : List (Addr × Obj)} {σ : L2.St} {H : Hp} {s : Shared} {t : Bool} {a : Addr} {xs : List V} (I : Inv X pins σ H s) (h : SeqV X.K H a t xs) : ∃ its : List Value, Vals xs its ∧ SrcOf t s.heap a its.toArray ∧ a < s.heap.objs.size := by
  cases t
  · obtain ⟨its, r, p, _⟩ := I.list h
    exact ⟨its, r, p.isList, p.lt⟩
  · obtain ⟨its, r, p, _⟩ := I.tuple h
    obtain ⟨o, e, q⟩ := id p
    exact ⟨its, r, p, Heap.lt_size e⟩
theorem seq_inj {X : Cx} {pins : List (Addr × Obj)} {σ : L2.St} {H : Hp} {s : Shared} {t : Bool} {a : Addr} {xs ys : List V} (I : Inv X pins σ H s) (h : SeqV X.K H a t xs) (h' : SeqV X.K H a t ys) : xs = ys := by
  cases t
  · exact I.list_inj h h'
  · exact I.tuple_inj h h'
/-- a walk that hands out new tuples -/
theorem turn_new {P : Program} {w : World} {K : PySem.W.Frag} {elts : List Expr} {kk : Nat} {tpos : Pos} {it : Addr} {wr fs : List Addr} {J : It} {tn : Nat → Heap → Prop} (mem : it ∈ fs) (sub : ∀ b ∈ wr, b ∈ fs) (obj : ∀ i h, tn i h → ∀ b ∈ fs, ∃ o, h.get? b = some o ∧ ∀ v, o.data ≠ .cell v)
    (keep : ∀ i h h', tn i h → (∀ b ∈ fs, ∀ o, h.get? b = some o → h'.get? b = some o) → tn i h') (self : ∀ (A : Around) (i : Nat) (s : Shared) (Q : Value → Shared → Prop) (E : Value → Shared → Prop), tn i s.heap → Q (.ref it) s → wpAny (model P w) A (pyIter (.ref it)) Q E s)
    (go : ∀ (X : Cx), X.prog = P → X.w = w → X.K = K → X.A.in1.handled = none → ∀ (i : Nat) (pins : List (Addr × Obj)) (s : Shared) (σ : L2.St) (H : Hp), Inv X pins σ H s → tn i s.heap → J.go i H ∨ J.stop i H →
      ∃ n fp Pt St Mid, WalksT P w X.A it fp wr n Pt St Mid ∧ St i s.heap ∧ (J.go i H → i < n) ∧ (J.stop i H → i = n) ∧ (∀ h, St (i + 1) h → tn (i + 1) h) ∧
        (J.go i H → ∀ vals, Pt i vals → ∃ xs : List V, Vals xs vals.toList ∧ xs.length ≤ 2 ∧ ∀ T, H T = none → J.yld i H (.ref T) (upd H T (.tup xs)))) : Turn P w K (.Tuple elts kk tpos) J fs it tn where
  mem := mem
  obj := obj
  keep := keep
  self := self
  item := by
    intro X e1 e2 e3 hc i pins s σ H E I hf st hg
    obtain ⟨n, fp, Pt, St, Mid, W, s1, g1, _, g3, g4⟩ := go X e1 e2 e3 (I.ok.hd hc) i pins s σ H I st (.inl hg)
    subst e1 e2 e3
    refine W.item i s _ _ (g1 hg) s1 fun T vals h' tk hP hT isT hM k1 => ?_
    obtain ⟨xs, rv, hl, hy⟩ := g4 hg vals hP
    refine ⟨_, rfl, W.go elts kk tpos i T _ _ _ hM fun h2 s2 k2 => ?_⟩
    have nT : T ∉ wr := W.apart _ _ _ hM
    have isT2 : h2.IsTuple T vals := isT.at fun o e => k2 T o nT e
    have new : ObjOk X.prog X.w (upd H T (.tup xs)) h2 T (.tup xs) := ⟨Nat.le_trans hl (by decide), vals.toList, rv, isT2⟩
    have I1 : Inv X pins σ (upd H T (.tup xs)) { s with heap := h2, toks := tk } := I.turnedNew (ch := wr) (fun b o hb e => k2 b o hb (k1 b o hb e)) (fun b hb => hf b (sub b hb)) hT new
    refine ⟨.ref T, _, I1, rfl, hy T (I.hok.fresh hT), g3 _ s2, fun b hb => ?_⟩
    obtain ⟨o, e, _⟩ := obj _ _ st b hb
    rw [upd_ne (Nat.ne_of_lt (Nat.lt_of_lt_of_le (Heap.lt_size e) hT))]
    exact (hf b hb).1
  done := by
    intro X e1 e2 e3 hc i pins s σ H E I hf st hg
    obtain ⟨n, fp, Pt, St, Mid, W, s1, _, g2, _, _⟩ := go X e1 e2 e3 (I.ok.hd hc) i pins s σ H I st (.inr hg)
    subst e1 e2 e3
    have := g2 hg
    subst this
    exact W.done s _ _ s1 fun h' tk k => ⟨rfl, I.turnedL (ch := wr) k fun b hb => hf b (sub b hb)⟩
/-! zip -/
def Itz2 (K : PySem.W.Frag) (t1 t2 : Bool) (a b : Addr) : It :=
  ⟨fun i H => ∃ (xs ys : List V) (x y : V), SeqV K H a t1 xs ∧ SeqV K H b t2 ys ∧ xs.length = ys.length ∧ xs[i]? = some x ∧ ys[i]? = some y,
    fun i H v H' => ∃ T x y, v = .ref T ∧ H T = none ∧ H' = upd H T (.tup [x, y]) ∧ (∀ xs, SeqV K H a t1 xs → xs[i]? = some x) ∧ ∀ ys, SeqV K H b t2 ys → ys[i]? = some y,
    fun i H => ∃ xs ys : List V, SeqV K H a t1 xs ∧ SeqV K H b t2 ys ∧ xs.length = i ∧ ys.length = i⟩
structure Ap2 (z TI TO j1 j2 a b : Addr) : Prop where
  s : ZipSep2 z TI TO j1 j2 [j1, a] [j2, b]
  d1 : a ≠ j1
  d2 : b ≠ j2
theorem ap2 {N a b : Nat} (ha : a < N) (hb : b < N) : Ap2 (N + 4) (N + 2) (N + 3) N (N + 1) a b := by
  have m : ∀ {x y c : Nat}, c ≠ x → c ≠ y → c ∉ [x, y] := fun h1 h2 h => by
    rcases List.mem_cons.mp h with h | h
    · exact h1 h
    · exact h2 (List.mem_singleton.mp h)
  have lt : ∀ {x y : Nat}, x < y → x ≠ y := fun h => Nat.ne_of_lt h
  have gt : ∀ {x y : Nat}, y < x → x ≠ y := fun h => Nat.ne_of_gt h
  exact ⟨⟨lt (by omega), lt (by omega), lt (by omega), gt (by omega), List.mem_cons_self .., m (gt (by omega)) (gt (by omega)), m (gt (by omega)) (gt (by omega)), gt (by omega), List.mem_cons_self .., m (gt (by omega)) (gt (by omega)), m (gt (by omega)) (gt (by omega)), m (lt (by omega)) (gt (by omega)), m (gt (by omega)) (gt (by omega))⟩, lt (by omega), lt (by omega)⟩
theorem turn_zs {P : Program} {w : World} {K : PySem.W.Frag} {elts : List Expr} {kk : Nat} {tpos : Pos} {t1 t2 : Bool} {z TI TO j1 j2 a b : Addr} (D : Ap2 z TI TO j1 j2 a b) :
    Turn P w K (.Tuple elts kk tpos) (Itz2 K t1 t2 a b) [z, TI, TO, j1, j2] z (fun i h => ZipS h z TI TO .none ∧ IsTupOf2 h TI (.ref j1) (.ref j2) ∧ (∃ c1 c2, IsTupOf2 h TO c1 c2) ∧ ItrOf t1 h j1 a i ∧ ItrOf t2 h j2 b i) := by
  refine turn_new (wr := [z, TO, j1, j2]) (by simp) (fun c hc => by simp at hc ⊢; rcases hc with h | h | h | h <;> simp [h]) (fun i h ⟨e1, e2, ⟨c1, c2, e3⟩, x1, x2⟩ c hc => ?_) (fun i h h' ⟨e1, e2, ⟨c1, c2, e3⟩, x1, x2⟩ k => ⟨k z (by simp) _ e1, k TI (by simp) _ e2, ⟨c1, c2, k TO (by simp) _ e3⟩, x1.at fun o e => k j1 (by simp) o e, x2.at fun o e => k j2 (by simp) o e⟩) (fun A i s Q E ⟨e1, _⟩ h => ?_) ?_
  · simp only [List.mem_cons, List.not_mem_nil, or_false] at hc
    rcases hc with rfl | rfl | rfl | rfl | rfl
    · exact ⟨_, e1, fun v q => nomatch q⟩
    · exact ⟨_, e2, fun v q => nomatch q⟩
    · exact ⟨_, e3, fun v q => nomatch q⟩
    · exact x1.obj
    · exact x2.obj
  · have ty : s.TypeIs (.ref z) "zip" := ⟨_, e1, rfl⟩
    exact wpAny_pyIter_slot ty F.slot_zip_iter (wpAny_call_entry F.slot_zip_iter ty F.entry_zip_iter (wpAny_pure ⟨_, rfl, "zip", _, ty, F.slot_zip_next.lookup, h⟩) (F.args_zip_iter_1 _))
  · rintro X rfl rfl rfl hh i pins s σ H I ⟨e1, e2, e3, x1, x2⟩ hg
    have src : ∃ xs ys, SeqV X.K H a t1 xs ∧ SeqV X.K H b t2 ys ∧ xs.length = ys.length := by
      rcases hg with ⟨xs, ys, _, _, q1, q2, q3, _⟩ | ⟨xs, ys, q1, q2, q3, q4⟩
      · exact ⟨xs, ys, q1, q2, q3⟩
      · exact ⟨xs, ys, q1, q2, q3.trans q4.symm⟩
    obtain ⟨xs, ys, q1, q2, ql⟩ := src
    obtain ⟨its, r1, p1, _⟩ := inv_src I q1
    obtain ⟨jts, r2, p2, _⟩ := inv_src I q2
    have l1 := r1.length
    have l2 := r2.length
    have W := walks_zs (prog := X.prog) (w := X.w) (A := X.A) (n := its.toArray.size) hh D.s (draws_src t1 hh j1 a D.d1 its.toArray) (by rw [show its.toArray.size = jts.toArray.size by simp; omega]; exact draws_src t2 hh j2 b D.d2 jts.toArray)
    refine ⟨_, _, _, _, _, W, ⟨e1, e2, e3, ⟨x1, p1⟩, ⟨x2, p2⟩⟩, fun ⟨us, vs, u, v, g1, g2, g3, g4, g5⟩ => ?_, fun ⟨us, vs, g1, g2, g3, g4⟩ => ?_, fun h ⟨k1, k2, k3, k4, k5⟩ => ⟨k1, k2, k3, k4.1, k5.1⟩, fun ⟨us, vs, u, v, g1, g2, g3, g4, g5⟩ vals ⟨x, y, m1, m2, m3⟩ => ?_⟩
    · cases seq_inj I g1 q1
      have := (List.getElem?_eq_some_iff.mp g4).1
      simp; omega
    · cases seq_inj I g1 q1
      simp; omega
    · cases seq_inj I g1 q1
      cases seq_inj I g2 q2
      obtain ⟨u', hu, ru⟩ := r1.get g4
      obtain ⟨v', hv, rv⟩ := r2.get g5
      have m1 : its[i]? = some x := by simpa using m1
      have m2 : jts[i]? = some y := by simpa using m2
      rw [hu] at m1; cases m1
      rw [hv] at m2; cases m2
      subst m3
      exact ⟨[u, v], .cons ru (.cons rv .nil), by simp, fun T hT => ⟨T, u, v, rfl, hT, rfl, fun zs hz => by rw [seq_inj I hz q1]; exact g4, fun zs hz => by rw [seq_inj I hz q2]; exact g5⟩⟩
end L3

namespace L3
open PySem PySem.Spec PyProof.Rows L2

theorem callWith_tyK {M : Model} {A : Around} {E : Value → Shared → Prop} {s : Shared} {pos : Pos} {T : String} {args : List (Bool × Sem Value)} {kws : List (Option Str × Sem Value)} {Q : Value → Shared → Prop} (h1 : args.any (·.1) = false) (h2 : kws.any (·.1.isNone) = false)
    (h : wpAny M A (evalArgs (.type T) true args kws) (fun a s₁ => wpAny M A (call (.type T) ([] ++ a.pos) a.kw) Q E s₁) E s) : wpAny M A (callWith pos (.type T) [] args kws) Q E s := by
  unfold callWith
  refine wpAny_bind (wpAny_holding (wpAny_mono h (fun a t q => ?_) fun _ _ x => x))
  refine wpAny_bind (wpAny_standAt ?_)
  simp only [h1, h2, Bool.or_false]
  exact wpAny_bind (wpAny_pure (wpAny_bind (wpAny_mono q (fun r t2 hr => wpAny_bind (wpAny_holding (wpAny_point (wpAny_pure hr)))) fun _ _ x => x)))
def iZipS (K : PySem.W.Frag) (ta tk : TA) : TI := fun σ H R => ta σ H fun vs H1 => tk σ H1 fun ws H2 => ∃ t1 t2 a b xs ys, vs = [.ref a, .ref b] ∧ ws = [.bl true] ∧ SeqV K H2 a t1 xs ∧ SeqV K H2 b t2 ys ∧ xs.length = ys.length ∧ R (Itz2 K t1 t2 a b) H2
theorem pi_zipS {X : Cx} {e e2 f : Expr} {ta tk : TA} {p pos tpos kpos : Pos} {elts : List Expr} {kk : Nat} (hg : Gl X "zip") (hm : X.mg "zip" = none) (ha : PA X [e, e2] ta) (hk : PK X [⟨some "strict", f, kpos⟩] tk)
    (he : backTo pos (starEach [e, e2] X.env) = (false, eval e X.env) :: backTo pos (starEach [e2] X.env) := by rfl) (hpl : (backTo pos (starEach [e, e2] X.env)).any (·.1) = false := by rfl)
    (hall : (backToKw pos (keywordEach [⟨some "strict", f, kpos⟩] X.env)).all (·.1.isSome) = true := by rfl) (hnone : (backToKw pos (keywordEach [⟨some "strict", f, kpos⟩] X.env)).any (·.1.isNone) = false := by rfl) (hks : (backToKw pos (keywordEach [⟨some "strict", f, kpos⟩] X.env)).filterMap (·.1) = [Str.ofString "strict"] := by rfl) :
    PI X (.Tuple elts kk tpos) (.Call (.Name "zip" p) [e, e2] [⟨some "strict", f, kpos⟩] pos) (iZipS X.K ta tk) := by
  refine ⟨fun pins s σ H R I h => wpAny_Call_Name_kw (ld_blt I hg hm PyProof.Rows.boot_zip ?_)⟩
  refine callWith_tyK hpl hnone ?_
  have hrun := ha.run pos pins s σ H _ I h
  rw [he] at hrun ⊢
  refine PyProof.Rows.evalArgs_kwB hall (thn hrun fun us s1 ⟨vs, H1, I1, r1, q1⟩ => thn (hk.run pos pins s1 σ H1 _ I1 q1) fun ws s2 ⟨zs, H2, I2, r2, q2⟩ => ?_)
  obtain ⟨t1, t2, a, b, xs, ys, rfl, rfl, qa, qb, hl, q⟩ := q2
  rw [hks]
  cases r1 with
  | cons u1 rr =>
    cases rr with
    | cons u2 rr =>
      cases rr
      cases u1
      cases u2
      cases r2 with
      | cons u3 rr =>
        cases rr
        cases u3
        obtain ⟨its, rv, p1, la⟩ := inv_src I2 qa
        obtain ⟨jts, rv2, p2, lb⟩ := inv_src I2 qb
        refine zs_begins (begins_src t1 a its.toArray) (begins_src t2 b jts.toArray) p1 p2 fun h' hz eI eO g1 g2 hk' => ?_
        have I3 : Inv X pins σ H2 { s2 with heap := h' } := I2.kept (t' := s2.toks) hk'
        have hz' : ({ s2 with heap := h' } : Shared).TypeIs (.ref (s2.heap.objs.size + 4)) "zip" := ⟨_, hz, rfl⟩
        refine wpAny_pyIter_slot hz' F.slot_zip_iter (wpAny_call_entry F.slot_zip_iter hz' F.entry_zip_iter (wpAny_pure ⟨_, rfl, "zip", _, hz', F.slot_zip_next.lookup, ?_⟩) (F.args_zip_iter_1 _))
        refine ⟨s2.heap.objs.size + 4, [s2.heap.objs.size + 4, s2.heap.objs.size + 2, s2.heap.objs.size + 3, s2.heap.objs.size, s2.heap.objs.size + 1], _, _, H2, rfl, I3, turn_zs (ap2 la lb), ⟨hz, eI, ⟨_, _, eO⟩, itr_of g1, itr_of g2⟩, fun c hc => ?_, q⟩
        have hle : s2.heap.objs.size ≤ c := by
          simp only [List.mem_cons, List.not_mem_nil, or_false] at hc
          rcases hc with h | h | h | h | h <;> rw [h] <;> first | exact Nat.le_add_right _ _ | exact Nat.le_refl _
        exact I2.fpOk hle (I2.hok.fresh hle)
/-! ### enumerate of a list or a tuple -/
def IteA (K : PySem.W.Frag) (t : Bool) (a : Addr) : It :=
  ⟨fun i H => ∃ (xs : List V) (x : V), SeqV K H a t xs ∧ xs[i]? = some x, fun i H v H' => ∃ T x, v = .ref T ∧ H T = none ∧ H' = upd H T (.tup [.int (i : Nat), x]) ∧ ∀ xs, SeqV K H a t xs → xs[i]? = some x, fun i H => ∃ xs : List V, SeqV K H a t xs ∧ xs.length = i⟩
theorem turn_en {P : Program} {w : World} {K : PySem.W.Frag} {elts : List Expr} {kk : Nat} {tpos : Pos} {t : Bool} {e j a : Addr} (d1 : e ≠ j) (d2 : e ≠ a) (d3 : a ≠ j) :
    Turn P w K (.Tuple elts kk tpos) (IteA K t a) [e, j] e (fun i h => (∃ old, IsEnum h e j ((i : Nat) : Int) old) ∧ ItrOf t h j a i) := by
  refine turn_new (wr := [e, j]) (by simp) (fun c hc => hc) (fun i h ⟨⟨old, e1⟩, x1⟩ c hc => ?_) (fun i h h' ⟨⟨old, e1⟩, x1⟩ k => ⟨⟨old, k e (by simp) _ e1⟩, x1.at fun o q => k j (by simp) o q⟩) (fun A i s Q E ⟨⟨_, e1⟩, _⟩ h => wpAny_pyIter_enum e1 h) ?_
  · simp only [List.mem_cons, List.not_mem_nil, or_false] at hc
    rcases hc with rfl | rfl
    · exact ⟨_, e1, fun v q => nomatch q⟩
    · exact x1.obj
  · rintro X rfl rfl rfl hh i pins s σ H I ⟨⟨old, e1⟩, x1⟩ hg
    have src : ∃ xs, SeqV X.K H a t xs := by
      rcases hg with ⟨xs, _, q1, _⟩ | ⟨xs, q1, _⟩
      · exact ⟨xs, q1⟩
      · exact ⟨xs, q1⟩
    obtain ⟨xs, q1⟩ := src
    obtain ⟨its, r1, p1, _⟩ := inv_src I q1
    have l1 := r1.length
    have W := WalksT.enumFrom (prog := X.prog) (w := X.w) (A := X.A) 0 (draws_src t hh j a d3 its.toArray) e d1 (by simp [d1, d2]) (by simp)
    refine ⟨_, _, _, _, _, W, ⟨⟨old, by rw [Int.zero_add]; exact e1⟩, x1, p1⟩, fun ⟨us, u, g1, g2⟩ => ?_, fun ⟨us, g1, g2⟩ => ?_, fun h ⟨⟨o', k1⟩, k2⟩ => ⟨⟨o', by rw [Int.zero_add] at k1; exact k1⟩, k2.1⟩, fun ⟨us, u, g1, g2⟩ vals ⟨tk, x, m1, m2⟩ => ?_⟩
    · cases seq_inj I g1 q1
      have := (List.getElem?_eq_some_iff.mp g2).1
      simp; omega
    · cases seq_inj I g1 q1
      simp; omega
    · cases seq_inj I g1 q1
      obtain ⟨u', hu, ru⟩ := r1.get g2
      have m1 : its[i]? = some x := by simpa using m1
      rw [hu] at m1; cases m1
      subst m2
      exact ⟨[.int (i : Nat), u], .cons ⟨tk, by rw [Int.zero_add]⟩ (.cons ru .nil), by simp, fun T hT => ⟨T, u, rfl, hT, rfl, fun zs hz => by rw [seq_inj I hz q1]; exact g2⟩⟩
theorem meets_en {v : Value} {o : Obj} {H : Heap → Prop} (B : Begins v o H) :
    Meets (Builtin.«enumerate.__new__» ⟨[.type "enumerate", v], []⟩) (fun _ R s => H s.heap ∧
      R (.ok (.ret (.ref (s.heap.push o).objs.size))) { s with heap := (s.heap.push o).push { cls := .type "enumerate", data := .fields #[.none, .bool false, .ref s.heap.objs.size, rawInt 0, .none, .none] } }) :=
  .of_wp fun prog w A R s h => by
    obtain ⟨hp, gg, dd, tk, ss⟩ := s
    obtain ⟨h1, h⟩ := h
    have hs := sub_enumerate
    have k1 : ∀ {A' : Around} {E : Value → Shared → Prop} {Q : Value → Shared → Prop}, Q (.ref hp.objs.size) ⟨hp.push o, gg, dd, tk, ss⟩ → wpAny (model prog w) A' (pyIter v) Q E ⟨hp, gg, dd, tk, ss⟩ := fun q => B.iter prog w _ _ ⟨hp, gg, dd, tk, ss⟩ _ h1 q
    wp_walk using k1
    refine wpAny_stack_any fun _ => wpAny_pure ?_
    split
    · rename_i c _ _ _ _ _
      cases (c == Value.type "enumerate") <;> (wp_walk using k1; exact ⟨_, rfl, h⟩)
    · wp_walk using k1
      exact ⟨_, rfl, h⟩
theorem en_begins {prog : Program} {w : World} {A : Around} {E : Value → Shared → Prop} {s : Shared} {v : Value} {o : Obj} {H : Heap → Prop} {Q : Value → Shared → Prop} (B : Begins v o H) (h1 : H s.heap)
    (h : ∀ h', IsEnum h' (s.heap.objs.size + 1) s.heap.objs.size 0 .none → h'.get? s.heap.objs.size = some o → (∀ b q, s.heap.get? b = some q → h'.get? b = some q) → Q (.ref (s.heap.objs.size + 1)) { s with heap := h' }) :
    wpAny (model prog w) A (call (.type "enumerate") [v]) Q E s := by
  refine callType_new F.called_enumerate (by decide) (F.typeCall_enumerate_1 _) (F.newCall_enumerate_1 _) (fun obj => F.args_object_init_2 obj _) F.entry_enumerate_new (meets_en B) ⟨h1, ?_⟩
  have n1 : (s.heap.push o).objs.size = s.heap.objs.size + 1 := Heap.size_push ..
  show _ ∧ _
  rw [n1]
  have g : IsEnum ((s.heap.push o).push { cls := .type "enumerate", data := .fields #[.none, .bool false, .ref s.heap.objs.size, rawInt 0, .none, .none] }) (s.heap.objs.size + 1) s.heap.objs.size 0 .none := by
    have q := Heap.get?_push_size (s.heap.push o) (o := { cls := .type "enumerate", data := .fields #[.none, .bool false, .ref s.heap.objs.size, rawInt 0, .none, .none] }) rfl
    rw [n1] at q; exact q
  exact ⟨⟨_, g, rfl⟩, h _ g (Heap.get?_push_of_some _ (Heap.get?_push_size _ B.free)) fun b q x => Heap.get?_push_of_some _ (Heap.get?_push_of_some _ x)⟩
def iEnumA (K : PySem.W.Frag) (ta : TA) : TI := fun σ H R => ta σ H fun vs H1 => ∃ t a xs, vs = [.ref a] ∧ SeqV K H1 a t xs ∧ R (IteA K t a) H1
theorem pi_enA {X : Cx} {e : Expr} {ta : TA} {p pos tpos : Pos} {elts : List Expr} {kk : Nat} (hg : Gl X "enumerate") (hm : X.mg "enumerate" = none) (ha : PA X [e] ta) (hs : starEach [e] X.env = [(false, eval e X.env)] := by rfl) :
    PI X (.Tuple elts kk tpos) (.Call (.Name "enumerate" p) [e] [] pos) (iEnumA X.K ta) := by
  refine ⟨fun pins s σ H R I h => Call_ (ld_blt I hg hm boot_enumerate (PyProof.Rows.callWith_type1 (thn (ha.run pos pins s σ H _ I h) fun us s1 ⟨vs, H1, I1, r1, q1⟩ => ?_) hs rfl))⟩
  obtain ⟨t, a, xs, rfl, qa, q⟩ := q1
  cases r1 with
  | cons r rr =>
    cases rr
    cases r
    obtain ⟨its, rv, p1, la⟩ := inv_src I1 qa
    refine en_begins (begins_src t a its.toArray) p1 fun h' he g1 hk' => wpAny_pyIter_enum he ?_
    have I3 : Inv X pins σ H1 { s1 with heap := h' } := I1.kept (t' := s1.toks) hk'
    have ne1 : s1.heap.objs.size + 1 ≠ s1.heap.objs.size := Nat.succ_ne_self _
    have ne2 : s1.heap.objs.size + 1 ≠ a := fun z => absurd la (by rw [← z]; exact Nat.not_lt.mpr (Nat.le_succ _))
    have ne3 : a ≠ s1.heap.objs.size := Nat.ne_of_lt la
    refine ⟨s1.heap.objs.size + 1, [s1.heap.objs.size + 1, s1.heap.objs.size], _, _, H1, rfl, I3, turn_en ne1 ne2 ne3, ⟨⟨.none, he⟩, itr_of g1⟩, fun c hc => ?_, q⟩
    have hle : s1.heap.objs.size ≤ c := by
      simp only [List.mem_cons, List.not_mem_nil, or_false] at hc
      rcases hc with h | h <;> rw [h] <;> first | exact Nat.le_add_right _ _ | exact Nat.le_refl _
    exact I1.fpOk hle (I1.hok.fresh hle)
end L3

namespace L3
open PySem PySem.Spec PyProof.Rows L2

/-! ### zip, enumerate, over data -/
def seqD : D → Option (List D)
  | .lst ds => some ds
  | .tup ds => some ds
  | .kl ds => some ds
  | .kt ds => some ds
  | _ => none
theorem seqD_ok {K : PySem.W.Frag} {Φ : Hp} {v : V} {d : D} {ds : List D} (r : Rp K Φ v d) (e : seqD d = some ds) : ∃ t a vs, v = .ref a ∧ SeqV K Φ a t vs ∧ Rps K Φ vs ds := by
  cases r with
  | lst q r => cases e; exact ⟨false, _, _, rfl, .inl (.inl q), r⟩
  | tup q r => cases e; exact ⟨true, _, _, rfl, .inl (.inl q), r⟩
  | kl q r => cases e; exact ⟨false, _, _, rfl, q, r⟩
  | kt q r => cases e; exact ⟨true, _, _, rfl, q, r⟩
  | _ => cases e
theorem seqV_mono {K : PySem.W.Frag} {H H' : Hp} {a : Addr} {t : Bool} {xs : List V} (le : Same H H') (h : SeqV K H a t xs) : SeqV K H' a t xs := by
  cases t
  · exact sqL_mono le h
  · exact sqT_mono le h
def pair2 (p : D × D) : D := .tup [p.1, p.2]
/-- one step of a walk that hands out new tuples of frozen things -/
theorem walk_tup {K : PySem.W.Frag} {S : Sto} {σ : Sl} {H Φ : Hp} {A F G : List Addr} {T : Addr} {xs : List V} {ds : List D} (st : Stands K S σ H Φ A F G) (hT : H T = none) (r : Rps K Φ xs ds) :
    ∃ Φ', Step F G H Φ A F G (upd H T (.tup xs)) Φ' A ∧ Stands K S σ (upd H T (.tup xs)) Φ' A F G ∧ Rp K Φ' (.ref T) (.tup ds) := by
  obtain ⟨n1, n2, n3⟩ := new_frz (o := .tup xs) st hT
  exact ⟨_, n1, n2, .tup upd_same (r.mono n3)⟩
theorem walk_zs {K : PySem.W.Frag} {Φ0 : Hp} {a b : Addr} {t1 t2 : Bool} {vs ws : List V} {ds es : List D} (q1 : SeqV K Φ0 a t1 vs) (q2 : SeqV K Φ0 b t2 ws) (r1 : Rps K Φ0 vs ds) (r2 : Rps K Φ0 ws es) (hl : ds.length = es.length) : Walk K Φ0 (Itz2 K t1 t2 a b) ((ds.zip es).map pair2) := fun S σ H Φ A F G st le i => by
  have s1 := seqV_mono st.le (seqV_mono le q1)
  have s2 := seqV_mono st.le (seqV_mono le q2)
  have l1 := r1.length
  have l2 := r2.length
  refine ⟨fun d ed => ?_, fun ei => ⟨vs, ws, s1, s2, by simp at ei; omega, by simp at ei; omega⟩⟩
  rw [List.getElem?_map] at ed
  cases ez : (ds.zip es)[i]? with
  | none => rw [ez] at ed; cases ed
  | some p =>
    rw [ez] at ed; cases ed
    obtain ⟨x, y⟩ := p
    obtain ⟨e1, e2⟩ := List.getElem?_zip_eq_some.mp ez
    obtain ⟨v, ev, rv⟩ := r1.get' e1
    obtain ⟨w, ew, rw'⟩ := r2.get' e2
    refine ⟨⟨vs, ws, v, w, s1, s2, by omega, ev, ew⟩, fun u H' ⟨T, v', w', h1, h2, h3, h4, h5⟩ => ?_⟩
    have e3 := h4 vs s1
    rw [ev] at e3; cases e3
    have e4 := h5 ws s2
    rw [ew] at e4; cases e4
    subst h1 h3
    exact walk_tup st h2 (.cons (rv.mono le) (.cons (rw'.mono le) .nil))
def enumD (ds : List D) : List D := ((List.range ds.length).zip ds).map fun p => .tup [.int (p.1 : Int), p.2]
theorem walk_en {K : PySem.W.Frag} {Φ0 : Hp} {a : Addr} {t : Bool} {vs : List V} {ds : List D} (q1 : SeqV K Φ0 a t vs) (r1 : Rps K Φ0 vs ds) : Walk K Φ0 (IteA K t a) (enumD ds) := fun S σ H Φ A F G st le i => by
  have s1 := seqV_mono st.le (seqV_mono le q1)
  have l1 := r1.length
  refine ⟨fun d ed => ?_, fun ei => ⟨vs, s1, by unfold enumD at ei; simp at ei; omega⟩⟩
  unfold enumD at ed
  rw [List.getElem?_map] at ed
  cases ez : ((List.range ds.length).zip ds)[i]? with
  | none => rw [ez] at ed; cases ed
  | some p =>
    rw [ez] at ed; cases ed
    obtain ⟨k, y⟩ := p
    obtain ⟨e1, e2⟩ := List.getElem?_zip_eq_some.mp ez
    have ek : k = i := by
      have hi := (List.getElem?_eq_some_iff.mp e2).1
      rw [List.getElem?_range hi] at e1; cases e1; rfl
    subst ek
    obtain ⟨v, ev, rv⟩ := r1.get' e2
    refine ⟨⟨vs, v, s1, ev⟩, fun u H' ⟨T, v', h1, h2, h3, h4⟩ => ?_⟩
    have e3 := h4 vs s1
    rw [ev] at e3; cases e3
    subst h1 h3
    exact walk_tup st h2 (.cons (.int _) (.cons (rv.mono le) .nil))
def fZipS (fa : FA) : FI := bindE fa fun rs S => match escs rs S with
  | some ([x, y], S1) => (seqD x).bind fun ds => (seqD y).bind fun es => if ds.length = es.length then some (.ok ((ds.zip es).map pair2) S1) else none
  | _ => none
def fEnum (fa : FA) : FI := bindE fa fun rs S => match escs rs S with
  | some ([x], S1) => (seqD x).map fun ds => .ok (enumD ds) S1
  | _ => none
section
variable {X : Cx} {W : WX} {e e2 : Expr} {ta : TA} {fa : FA} {p pos tpos kpos bpos : Pos} {elts : List Expr} {kk jj : Nat}
theorem di_zipS (hm : X.mg "zip" = none) (ha : DA X W [e, e2] ta fa) (hg : Gl X "zip" := by rfl)
    (he : backTo pos (starEach [e, e2] X.env) = (false, eval e X.env) :: backTo pos (starEach [e2] X.env) := by rfl) (hpl : (backTo pos (starEach [e, e2] X.env)).any (·.1) = false := by rfl)
    (hall : (backToKw pos (keywordEach [⟨some "strict", .Constant (.bool true) jj bpos, kpos⟩] X.env)).all (·.1.isSome) = true := by rfl) (hnone : (backToKw pos (keywordEach [⟨some "strict", .Constant (.bool true) jj bpos, kpos⟩] X.env)).any (·.1.isNone) = false := by rfl) (hks : (backToKw pos (keywordEach [⟨some "strict", .Constant (.bool true) jj bpos, kpos⟩] X.env)).filterMap (·.1) = [Str.ofString "strict"] := by rfl) :
    DI X W (.Tuple elts kk tpos) (.Call (.Name "zip" p) [e, e2] [⟨some "strict", .Constant (.bool true) jj bpos, kpos⟩] pos) (iZipS X.K ta (tCons (tC (.bl true)) tNil)) (fZipS fa) :=
  ⟨pi_zipS hg hm ha.pe (pk_cons pe_bl pk_nil) he hpl hall hnone hks, fun S σ H Φ A F G st out ho R q => by
    refine runA (t := ta) ha.ev st ho (fun e S' eo => by subst eo; exact q) fun rs S1 vs H1 Φ1 A1 T F1 G1 sp st1 rv nd fz h1 => ?_
    cases e1 : escs rs S1 with
    | none => rw [e1] at h1; cases h1
    | some z =>
      obtain ⟨ds, S2⟩ := z
      rw [e1] at h1
      obtain ⟨Φ2, F2, sp2, st2, rr, fz2⟩ := escs_ok st1 rv nd e1
      match ds, rr, h1 with
      | [], _, h1 => cases h1
      | [_], _, h1 => cases h1
      | _ :: _ :: _ :: _, _, h1 => cases h1
      | [x, y], rr, h1 =>
        have h1 : (seqD x).bind (fun ds => (seqD y).bind fun es => if ds.length = es.length then some (.ok ((ds.zip es).map pair2) S2) else none) = some out := h1
        cases ex : seqD x with
        | none => rw [ex] at h1; cases h1
        | some ds =>
          cases ey : seqD y with
          | none => rw [ex, ey] at h1; cases h1
          | some es =>
            rw [ex, ey, Option.bind_some, Option.bind_some] at h1
            by_cases hl : ds.length = es.length
            · rw [if_pos hl] at h1; cases h1
              cases rr with
              | cons r1 rr =>
                cases rr with
                | cons r2 rr =>
                  cases rr
                  obtain ⟨t1, a, us, rfl, q1, k1⟩ := seqD_ok r1 ex
                  obtain ⟨t2, b, ws, rfl, q2, k2⟩ := seqD_ok r2 ey
                  refine ⟨t1, t2, a, b, us, ws, rfl, rfl, seqV_mono st2.le q1, seqV_mono st2.le q2, by rw [k1.length, k2.length]; exact hl, ?_⟩
                  exact q _ H1 Φ2 A1 F2 G1 (sp.trans0 sp2) st2 (fz.trans fz2) (walk_zs q1 q2 k1 k2 hl)
            · rw [if_neg hl] at h1; cases h1⟩
theorem di_enum (hm : X.mg "enumerate" = none) (ha : DA X W [e] ta fa) (hg : Gl X "enumerate" := by rfl) (hs : starEach [e] X.env = [(false, eval e X.env)] := by rfl) :
    DI X W (.Tuple elts kk tpos) (.Call (.Name "enumerate" p) [e] [] pos) (iEnumA X.K ta) (fEnum fa) :=
  ⟨pi_enA hg hm ha.pe hs, fun S σ H Φ A F G st out ho R q => by
    refine runA (t := ta) ha.ev st ho (fun e S' eo => by subst eo; exact q) fun rs S1 vs H1 Φ1 A1 T F1 G1 sp st1 rv nd fz h1 => ?_
    cases e1 : escs rs S1 with
    | none => rw [e1] at h1; cases h1
    | some z =>
      obtain ⟨ds, S2⟩ := z
      rw [e1] at h1
      obtain ⟨Φ2, F2, sp2, st2, rr, fz2⟩ := escs_ok st1 rv nd e1
      match ds, rr, h1 with
      | [], _, h1 => cases h1
      | _ :: _ :: _, _, h1 => cases h1
      | [x], rr, h1 =>
        have h1 : (seqD x).map (fun ds => Out.ok (enumD ds) S2) = some out := h1
        cases ex : seqD x with
        | none => rw [ex] at h1; cases h1
        | some ds =>
          rw [ex] at h1; cases h1
          cases rr with
          | cons r1 rr =>
            cases rr
            obtain ⟨t1, a, us, rfl, q1, k1⟩ := seqD_ok r1 ex
            exact ⟨t1, a, us, rfl, seqV_mono st2.le q1, q _ H1 Φ2 A1 F2 G1 (sp.trans0 sp2) st2 (fz.trans fz2) (walk_en q1 k1)⟩⟩
end
end L3

namespace L3
open PySem PySem.Spec PyProof.Rows L2

/-! ### defs with defaults -/
theorem funD_mk {K : PySem.W.Frag} {x qual : Str} {st : Stmt} {f T : Addr} {oc : Value} {od an : Option Addr} {osl : Array (Option Value)} {kV doc pm cdv ct : Value} {c1 : Value} {d1 : Option Addr} {its : List Value} {n1 : Nat} {s1 : Array (Option Value)} {dvs : List V}
    (l : K.lookup f = some ⟨oc, od, .func (PySem.W.fnOf x qual (defArgs st) (defBody st) (defScope st) (.ref T) kV doc pm an cdv ct), osl⟩)
    (c : PySem.W.codeIn K cdv qual = true) (k : PySem.W.keepIn K (.ref f) = true) (lT : K.lookup T = some ⟨c1, d1, .seq its.toArray n1, s1⟩) (v : Vals dvs its) (ne : dvs ≠ []) :
    FunD K x qual (defArgs st) (defBody st) (defScope st) dvs [] f (PySem.W.fnOf x qual (defArgs st) (defBody st) (defScope st) (.ref T) kV doc pm an cdv ct) :=
  ⟨⟨oc, od, .ref T, kV, doc, pm, an, cdv, ct, osl, rfl, l, c, .inr ⟨ne, T, _, its, n1, rfl, lT, rfl, v⟩, .inl rfl⟩, k⟩
theorem df_ofD {P : Program} {w : World} {K : PySem.W.Frag} {mg : Str → Option Value} {base : Heap} {k m n : Nat} {x : Str} {fb : FS} {f : Addr} {fd : FuncData} {ps : List Str} {dvs : List V} {dfl : List SV} (h : FG P w K mg base k f fd ps (spF K n (runF n m fb))) (hm : mg x = some (.ref f)) (hk : PySem.W.keepIn K (.ref f) = true)
    (bd : ∃ ds, Vals dvs ds ∧ Binds K fd ps ds) (hd : Dfl K dvs dfl) : Df P w K mg base k x n (runF n m fb) dvs dfl := by
  obtain ⟨ds, dd, b⟩ := bd
  exact ⟨⟨f, fd, ps, ds, hm, hk, b, dd, hd, h⟩, runF_len⟩
end L3

/-! x[::-1] of a tuple, of a list -/
namespace L3
open PySem PySem.Spec PyProof.Rows L2

theorem fm_congr {α β : Type} {f g : α → Option β} : ∀ {l : List α}, (∀ x ∈ l, f x = g x) → l.filterMap f = l.filterMap g
  | [], _ => rfl
  | x :: l, h => by rw [List.filterMap_cons, List.filterMap_cons, h x (by simp), fm_congr fun y hy => h y (by simp [hy])]
section
variable {prog : Program} {w : World} {A : Around} {E : Value → Shared → Prop} {s : Shared}
theorem wp_no {α : Type} {M : Model} {c : Prop} [Decidable c] {x y : Sem α} {Q : α → Shared → Prop} (h : ¬ c) (q : wpAny M A y Q E s) : wpAny M A (if c then x else y) Q E s := by rw [if_neg h]; exact q
theorem adjust_rev (n : Nat) : Builtin.Slice.sliceAdjust none none (-1) (n : Int) = ((n : Int) - 1, -1) := by
  unfold Builtin.Slice.sliceAdjust; simp
theorem places_rev (n : Nat) : Builtin.Slice.slicePlaces ((n : Int) - 1) (-1) (-1) = n := by
  unfold Builtin.Slice.slicePlaces
  by_cases h : n = 0
  · subst h; simp
  · simp; omega
theorem pick_rev (xs : List Value) : ((List.range xs.length).filterMap fun (k : Nat) => xs.toArray[(((xs.length : Int) - 1) + (k : Int) * (-1)).toNat]?).toArray = xs.reverse.toArray := by
  congr 1
  have e : ∀ k ∈ List.range xs.length, xs.toArray[(((xs.length : Int) - 1) + (k : Int) * (-1)).toNat]? = xs.reverse[k]? := fun k hk => by
    have hk := List.mem_range.mp hk
    have e1 : (((xs.length : Int) - 1) + (k : Int) * (-1)).toNat = xs.length - 1 - k := by omega
    rw [e1, List.getElem?_reverse hk]; simp
  rw [fm_congr e]
  have all : ∀ (ys : List Value), (List.range ys.length).filterMap (fun k => ys[k]?) = ys := fun ys => by
    induction ys with
    | nil => rfl
    | cons y ys ih =>
      rw [List.length_cons, List.range_succ_eq_map, List.filterMap_cons, List.filterMap_map]
      exact congrArg (y :: ·) ih
  have q := all xs.reverse
  rwa [List.length_reverse] at q
theorem applied_rev {sl : Addr} {n : Nat} {vs : Value} {Q : Int × Int × Nat → Shared → Prop} (hs : s.heap.IsSliceOf sl .none .none vs) (pv : IsPart vs (some (-1))) (h : Q ((n : Int) - 1, -1, n) s) :
    wpAny (model prog w) A (Builtin.Slice.sliceApplied (.ref sl) (pure (n : Int))) Q E s := by
  obtain ⟨o, h1, h2, h3⟩ := id hs
  have ev : ∃ t, vs = .int (-1) t := by
    cases pv
    exact ⟨_, rfl⟩
  obtain ⟨t, rfl⟩ := ev
  unfold Builtin.Slice.sliceApplied Builtin.Slice.sliceFields
  refine wpAny_bind (wpAny_bind (wpAny_field h1 h3 (x := .none) rfl (wpAny_bind (wpAny_field h1 h3 (x := .none) rfl (wpAny_bind (wpAny_field h1 h3 (x := .int (-1) t) rfl (wpAny_pure ?_)))))))
  refine wpAny_bind (slicePart_int ?_)
  show wpAny _ _ (if ((-1 : Int) == 0) = true then _ else _) _ _ s
  refine wp_no (by decide) (wpAny_bind (slicePart_none (wpAny_bind (slicePart_none (wpAny_bind (wpAny_pure ?_))))))
  show wpAny _ _ (match Builtin.Slice.sliceAdjust none none (-1) (n : Int) with | (lo, hi) => pure (lo, (-1 : Int), Builtin.Slice.slicePlaces lo hi (-1))) _ _ s
  rw [adjust_rev]
  show wpAny _ _ (pure ((n : Int) - 1, (-1 : Int), Builtin.Slice.slicePlaces ((n : Int) - 1) (-1) (-1))) _ _ s
  rw [places_rev]
  exact wpAny_pure h
theorem getItem_tup_rev {t sl : Addr} {items : List Value} {vs : Value} {Q : Value → Shared → Prop} (ht : IsTup s.heap t items.toArray) (hs : s.heap.IsSliceOf sl .none .none vs) (pv : IsPart vs (some (-1))) (hz : items.length ≤ sizeLine)
    (h : Q (.ref s.heap.objs.size) { s with heap := s.heap.push { cls := .type "tuple", data := .seq items.reverse.toArray } }) : wpAny (model prog w) A (getItem (.ref t) (.ref sl)) Q E s := by
  obtain ⟨o, h1, h2, h3⟩ := id hs
  have ty : s.TypeIs (.ref sl) "slice" := ⟨o, h1, h2⟩
  have fit : sizeOk (.seq items.reverse.toArray) := by
    show items.reverse.toArray.size ≤ sizeLine
    simpa using hz
  unfold getItem
  try with_reducible refine wpAny_holding ?_
  first | refine wpAny_bind (wpAny_pure ?_) | skip
  refine wpAny_bind (wpAny_sequenceKey ht.typeIs (by decide) (wpAny_bind (wpAny_callSpecial?_slot (name := Str.ofString "__getitem__") ht.typeIs PyProof.Rows.slot_tuple_getitem (wpAny_call_entry PyProof.Rows.slot_tuple_getitem ht.typeIs entry_tuple_getitem ?_ (args_tuple_getitem _ _)))))
  show wpAny _ _ (Builtin.Tuple.tupleItemsOf (.ref t) >>= _) _ _ s
  refine wpAny_bind (tupleItemsOf_ ht (wpAny_bind (wpAny_typeOf ty ?_)))
  refine wp_yes (by decide) (wpAny_bind (applied_rev (n := items.toArray.size) hs pv ?_))
  show wpAny _ _ (if ((((items.toArray.size : Nat) : Int) - 1) == 0 && (-1 : Int) == 1 && items.toArray.size == items.toArray.size) = true then _ else _) _ _ s
  refine wp_no (by simp) ?_
  have ep := pick_rev items
  rw [show items.toArray.size = items.length by simp]
  rw [ep]
  first
    | exact wpAny_bind (m := Builtin.Tuple.tupleExact _) (wpAny_newObj_type (wpAny_pure ⟨_, rfl, wpAny_pure h⟩) fit)
    | exact wpAny_bind (m := Builtin.Tuple.tupleExact _) (wpAny_newObj_type (wpAny_bind (wpAny_pure (wpAny_pure ⟨_, rfl, wpAny_pure h⟩))) fit)
    | exact wpAny_bind (wpAny_bind (m := Builtin.Tuple.tupleExact _) (wpAny_newObj_type (wpAny_pure (wpAny_pure ⟨_, rfl, wpAny_pure h⟩)) fit))
    | exact wpAny_bind (wpAny_bind (m := Builtin.Tuple.tupleExact _) (wpAny_newObj_type (wpAny_pure ⟨_, rfl, wpAny_pure h⟩) fit))
end
section
variable {X : Cx} {W : WX} {e : Expr} {te : TE} {fe : FE} {k : Nat} {p1 p2 p3 pos : Pos}
def tRevA (K : PySem.W.Frag) (te : TE) : TE := fun σ H Q => te σ H fun x H1 => ∃ a xs, x = .ref a ∧ ((SqL K H1 a xs ∧ ∀ p, H1 p = none → Q (.ref p) (upd H1 p (.lst xs.reverse))) ∨ (SqT K H1 a xs ∧ ∀ p, H1 p = none → Q (.ref p) (upd H1 p (.tup xs.reverse))))
theorem pe_revA (he : PE X e te) : PE X (.Subscript e (.Slice none none (some (.UnaryOp .USub (.Constant (.int 1) k p1) p2)) p3) pos) (tRevA X.K te) := by
  refine ⟨fun pins s σ H Q I h => Subscript_ (thn (he.run pins s σ H _ I h) fun v s1 ⟨x, H1, I1, r1, a, xs, ex, q1⟩ => ?_)⟩
  subst ex
  cases r1
  have neg : PO X (some (.UnaryOp .USub (.Constant (.int 1) k p1) p2)) (tPart (tUn (rU fun i => .int (-i)) (tC (.int 1)))) := po_some (pe_un un_neg pe_int)
  refine wpAny_Slice (thn (po_none.run pins s1 σ H1 (fun o H2 => o = none ∧ H2 = H1) I1 ⟨rfl, rfl⟩) fun vl s2 ⟨l, H2, I2, pl, el, e2⟩ => ?_)
  subst el e2
  refine thn (po_none.run pins s2 σ H2 (fun o H3 => o = none ∧ H3 = H2) I2 ⟨rfl, rfl⟩) fun vu s3 ⟨u, H3, I3, pu, eu, e3⟩ => ?_
  subst eu e3
  refine thn (neg.run pins s3 σ H3 (fun o H4 => o = some (-1) ∧ H4 = H3) I3 ⟨1, rfl, -1, rfl, rfl, rfl⟩) fun vs s4 ⟨o, H4, I4, ps, eo, e4⟩ => ?_
  subst eo e4
  have I5 : Inv X pins σ H4 { s4 with heap := s4.heap.push { cls := .type "slice", data := .fields #[vl, vu, vs] } } := I4.kept (t' := s4.toks) fun b ob q => Heap.get?_push_of_some _ q
  show wpAny (model X.prog X.w) X.A (subscriptTail e (.Slice none none (some (.UnaryOp .USub (.Constant (.int 1) k p1) p2)) p3) (.ref a) (.ref s4.heap.objs.size)) (EP X pins σ Q) X.xe { s4 with heap := s4.heap.push { cls := .type "slice", data := .fields #[vl, vu, vs] } }
  rcases q1 with ⟨hx, q⟩ | ⟨hx, q⟩
  · obtain ⟨its, r, ht, hz⟩ := I5.list hx
    have hlen := r.length
    refine tail_any (ops := [.ref a, .ref s4.heap.objs.size]) ht.isList.typeIs (PySem.slot_list_getitem.lookup) ?_ (by with_unfolding_all rfl)
    refine wpAny_getItem_list_slice ht.isList (Heap.IsSliceOf.new _ vl vu vs) pl pu ps (by decide) ?_ (by rw [List.size_toArray]; omega)
    rw [PySem.W.krv_pick]
    exact ⟨.ref _, _, I5.laid (t' := s4.toks) (o := .lst xs.reverse) (fun b ob q => Heap.get?_push_of_some _ q) (Nat.le_refl _) ⟨by rw [List.length_reverse]; exact hz, _, 0, r.reverse, Heap.get?_push_size _ rfl⟩, rfl, q _ (I5.hok.fresh (Nat.le_refl _))⟩
  · obtain ⟨its, r, ht, hz⟩ := I5.tuple hx
    have hlen := r.length
    have evl : vl = .none := by cases pl; rfl
    have evu : vu = .none := by cases pu; rfl
    subst evl evu
    refine tail_any (ops := [.ref a, .ref s4.heap.objs.size]) ht.typeIs PyProof.Rows.slot_tuple_getitem.lookup ?_ (by with_unfolding_all rfl)
    refine getItem_tup_rev ht (Heap.IsSliceOf.new _ .none .none vs) ps (by omega) ?_
    refine ⟨.ref _, _, I5.laid (t' := s4.toks) (o := .tup xs.reverse) (fun b ob q => Heap.get?_push_of_some _ q) (Nat.le_refl _) ⟨by rw [List.length_reverse]; exact hz, its.reverse, r.reverse, ?_⟩, rfl, q _ (I5.hok.fresh (Nat.le_refl _))⟩
    exact ⟨_, Heap.get?_push_size _ rfl, rfl, _, rfl⟩
def gRev (r : R) (S : Sto) : Option (R × Sto) := match r.its S with
  | some (false, ds) => some (.val (.own (ds.reverse.map SV.dat)), S)
  | some (true, ds) => some (.d (.tup ds.reverse), S)
  | none => none
def fRev (fe : FE) : FE := bindE fe fun r S => (gRev r S).map fun z => .ok z.1 z.2
theorem de_rev (he : DE X W e te fe) : DE X W (.Subscript e (.Slice none none (some (.UnaryOp .USub (.Constant (.int 1) k p1) p2)) p3) pos) (tRevA X.K te) (fRev fe) := ⟨pe_revA he.pe, fun S σ H Φ A F G st out ho Q q => by
  refine run1 (t := te) he.ev st ho q.x fun r S1 v H1 Φ1 A1 T F1 G1 sp st1 rv nd fz h1 => ?_
  cases eg : gRev r S1 with
  | none => rw [eg] at h1; cases h1
  | some z =>
    obtain ⟨rz, S2⟩ := z
    rw [eg] at h1; cases h1
    unfold gRev at eg
    cases ei : r.its S1 with
    | none => rw [ei] at eg; cases eg
    | some td =>
      obtain ⟨t, ds⟩ := td
      rw [ei] at eg
      obtain ⟨Φ2, a, vs, rfl, sq, rr, sp2, st2⟩ := its_ok st1 rv nd ei
      have s12 : Step F G H Φ A F1 G1 H1 Φ2 A1 := sp.trans0 sp2
      refine ⟨a, vs, rfl, ?_⟩
      cases t with
      | false =>
        cases eg
        refine .inl ⟨sq, fun p hp => ?_⟩
        exact end_list (fun v H' Φ' A' V F' G' s n m o f => q v H' Φ' A' V F' G' (s12.trans0 s) n m o (fz.trans f)) .refl st2 rr.reverse hp
      | true =>
        cases eg
        refine .inr ⟨sq, fun p hp => ?_⟩
        exact end_tup (fun v H' Φ' A' V F' G' s n m o f => q v H' Φ' A' V F' G' (s12.trans0 s) n m o (fz.trans f)) .refl st2 rr.reverse hp⟩
end
end L3

namespace L3
open PySem PySem.Spec PyProof.Rows L2
section
variable {X : Cx} {W : WX} {pos : Pos}
/-- a name read for the last time: what it owns goes along -/
def fMov (i : Nat) : FE := fun S => match S.ρ[i]? with
  | some (some x) => some (.ok (.val x) { S with ρ := S.ρ.set i none })
  | _ => none
theorem set_self {α : Type} : ∀ {l : List α} {i : Nat} {x : α}, l[i]? = some x → l.set i x = l
  | [], i, x, h => by simp at h
  | y :: l, 0, x, h => by simp at h; subst h; rfl
  | y :: l, i + 1, x, h => by simp at h; rw [List.set_cons_succ, set_self h]
theorem de_mov (i : Nat) {x : Str} (hN : X.N[i]? = some x := by rfl) (hv : Vis X.env.scope x := by first | exact Or.inl rfl | exact Or.inr (Or.inl rfl) | exact Or.inr (Or.inr rfl)) (hd : (x == ("__debug__" : Str)) = false := by decide)
    (hcd : (x == ("__classdict__" : Str)) = false := by decide) : DE X W (.Name x pos) (tVar i) (fMov i) := by
  refine ⟨pe_var hN hv hd hcd, fun S σ H Φ A F G st out h Q q => ?_⟩
  unfold fMov at h
  cases e : S.ρ[i]? with
  | none => rw [e] at h; cases h
  | some o =>
    cases o with
    | none => rw [e] at h; cases h
    | some x0 =>
      rw [e] at h; cases h
      obtain ⟨v, F1, Fi, F2, e1, e2, r, up⟩ := st.ro.at e
      subst e2
      have pm : (F1 ++ (Fi ++ F2) ++ G).Perm (Fi ++ (F1 ++ F2 ++ G)) := by
        have := (List.perm_append_comm_assoc F1 Fi F2).append_right G
        rwa [List.append_assoc Fi] at this
      have nd2 : (Fi ++ (F1 ++ F2 ++ G)).Nodup := pm.nodup_iff.mp st.nd
      have hF : ∀ b ∈ F1 ++ F2, Φ b = none := fun b hb => (st.ro.there b (by rcases List.mem_append.mp hb with h | h <;> simp [h])).2
      have r2 := (up (Φ' := Φ) (H' := H) (A' := A) (fun _ _ h => h) (fun _ _ h => h) (fun _ _ => rfl) hF).2 (some v)
      rw [set_self e1] at r2
      refine ⟨v, e1, q v H Φ A Fi (F1 ++ F2) G ?_ ⟨st.le, r2, st.rc, (List.nodup_append.mp nd2).2.1⟩ r nd2 ?_⟩
      · exact ⟨fun _ _ e _ => e, fun _ _ e => e, fun _ _ e => .inl e, fun b hb => .inl (by
          rcases List.mem_append.mp hb with h | h
          · simp [h]
          · rcases List.mem_append.mp h with h | h <;> simp [h]), fun _ e => .inl e, fun _ e => e, fun _ _ e => e⟩
      · intro j p y hp hs
        unfold Sto.sub at hs
        dsimp only at hs
        by_cases hj : i = j
        · subst hj
          rw [List.getElem?_set_self (List.getElem?_eq_some_iff.mp e).1] at hs
          cases hs
        · rw [List.getElem?_set_ne hj] at hs
          exact ⟨y, hs⟩
end
/-! ### reversed(x), walked -/
section
variable {X : Cx} {W : WX} {tg e : Expr} {te : TE} {fe : FE} {p pos : Pos}
theorem walk_rev {K : PySem.W.Frag} {Φ0 : Hp} {a : Addr} {t : Bool} {vs : List V} {ds : List D} (q1 : SeqV K Φ0 a t vs) (r1 : Rps K Φ0 vs ds) : Walk K Φ0 (if t = true then RT.ItvT K a vs.length else Itv K a vs.length) ds.reverse := fun S σ H Φ A F G st le i => by
  have s1 := seqV_mono st.le (seqV_mono le q1)
  have l1 := r1.length
  have get : ∀ d, ds.reverse[i]? = some d → i < vs.length ∧ ∃ v, vs[vs.length - 1 - i]? = some v ∧ Rp K Φ0 v d := fun d ed => by
    have hi := (List.getElem?_eq_some_iff.mp ed).1
    rw [List.length_reverse] at hi
    rw [List.getElem?_reverse hi, ← l1] at ed
    obtain ⟨v, ev, rv⟩ := r1.get' ed
    exact ⟨by omega, v, ev, rv⟩
  cases t with
  | true =>
    have s1 : SqT K H a vs := s1
    refine ⟨fun d ed => ?_, fun ei => ?_⟩
    · obtain ⟨hi, v, ev, rv⟩ := get d ed
      refine ⟨⟨hi, vs, v, s1, ev⟩, fun x H' hy => ?_⟩
      obtain ⟨rfl, hx⟩ := hy
      have ex := hx vs s1
      rw [ev] at ex; cases ex
      exact ⟨Φ, .refl, st, rv.mono le⟩
    · show vs.length ≤ i
      rw [List.length_reverse] at ei; omega
  | false =>
    have s1 : SqL K H a vs := s1
    refine ⟨fun d ed => ?_, fun ei => ?_⟩
    · obtain ⟨hi, v, ev, rv⟩ := get d ed
      refine ⟨⟨hi, vs, v, s1, ev⟩, fun x H' hy => ?_⟩
      obtain ⟨rfl, hx⟩ := hy
      have ex := hx vs s1
      rw [ev] at ex; cases ex
      exact ⟨Φ, .refl, st, rv.mono le⟩
    · show vs.length ≤ i
      rw [List.length_reverse] at ei; omega
def fRevd (fe : FE) : FI := bindE fe fun r S => match r.esc S with
  | some (d, S1) => (seqD d).map fun ds => .ok ds.reverse S1
  | none => none
theorem di_rev (hm : X.mg "reversed" = none) (h : DE X W e te fe) (hg : Gl X "reversed" := by rfl) (hs : starEach [e] X.env = (false, eval e X.env) :: starEach [] X.env := by rfl) :
    DI X W tg (.Call (.Name "reversed" p) [e] [] pos) (RT.iRevA X.K te) (fRevd fe) := ⟨RT.pi_revA hg hm h.pe hs, fun S σ H Φ A F G st out ho R q => by
  refine run1 (t := te) h.ev st ho (fun e S' eo => by subst eo; exact q) fun r S1 v H1 Φ1 A1 T F1 G1 sp st1 rv nd fz h1 => ?_
  cases ee : r.esc S1 with
  | none => rw [ee] at h1; cases h1
  | some z =>
    obtain ⟨d, S2⟩ := z
    rw [ee] at h1
    have h1 : (seqD d).map (fun ds => Out.ok ds.reverse S2) = some out := h1
    obtain ⟨Φ2, F2, sp2, st2, rp2, fz2⟩ := esc_ok st1 rv nd ee
    cases ex : seqD d with
    | none => rw [ex] at h1; cases h1
    | some ds =>
      rw [ex] at h1; cases h1
      obtain ⟨t, a, us, rfl, q1, k1⟩ := seqD_ok rp2 ex
      have wk := walk_rev q1 k1
      refine ⟨a, us, rfl, ?_⟩
      cases t with
      | true => exact .inr ⟨seqV_mono st2.le q1, q _ H1 Φ2 A1 F2 G1 (sp.trans0 sp2) st2 (fz.trans fz2) wk⟩
      | false => exact .inl ⟨seqV_mono st2.le q1, q _ H1 Φ2 A1 F2 G1 (sp.trans0 sp2) st2 (fz.trans fz2) wk⟩⟩
end
/-! ### x.insert(0, e) -/
def insAt0 (ro : R) (x : SV) (S : Sto) : Option Sto := match ro with
  | .bor i p => match S.sub i p with
    | some (.node .lst xs) => if xs.length < 1000000 then S.putp i p (.own (x :: xs)) else none
    | _ => none
  | _ => none
def fInsert0 (fo fe : FE) : FS := bindS fo fun ro S1 => match ro.sv S1 with
  | some (.node .lst _) => bindS fe (fun re S2 => match re.kid S2 with
    | some (x, S3) => (insAt0 ro x S3).map SO.nx
    | none => none) S1
  | _ => none
abbrev rIns : V → List V → Hp → VK → Prop := fun x vs H Q => ∃ (l : Addr) (xs : List V) (i : Int) (y : V), x = .ref l ∧ vs = [.int i, y] ∧ H l = some (.lst xs) ∧ xs.length < sizeLine ∧ 0 ≤ i ∧ i < 2 ^ 63 ∧
    Q .non (upd H l (.lst (xs.take i.toNat ++ [y] ++ xs.drop i.toNat)))
theorem ev_insert0 {K : PySem.W.Frag} {W : WX} {to te : TE} {fo fe : FE} (ho : EV K W to fo) (he : EV K W te fe) :
    SEV K W (fun D σ H => to σ H fun x H1 => tyV K "list" x H1 ∧ te σ H1 fun y H2 => rIns x [.int 0, y] H2 fun _ H3 => D.nx σ H3) (fInsert0 fo fe) := fun S σ H Φ A F G st out h D q => by
  refine runS (t := to) ho st h q fun ro S1 v H1 Φ1 A1 T F1 G1 sp st1 rv nd h1 => ?_
  cases ex : ro.sv S1 with
  | none => rw [ex] at h1; cases h1
  | some x =>
    rw [ex] at h1
    cases x with
    | dat d => cases h1
    | cell c => cases h1
    | node n xs =>
      cases n <;> try cases h1
      obtain ⟨U, rs, _⟩ := rv.rs st1 ex
      have hty : tyV K "list" v H1 := by
        cases rs with
        | node ea f pa qs => exact .inl ⟨rfl, _, .inl (.inl ea)⟩
      refine ⟨hty, ?_⟩
      have h1 : bindS fe (fun re S2 => match re.kid S2 with
        | some (x, S3) => (insAt0 ro x S3).map SO.nx
        | none => none) S1 = some out := h1
      unfold bindS at h1
      cases e2 : fe S1 with
      | none => rw [e2] at h1; cases h1
      | some o2 =>
        rw [e2] at h1
        have q1 := q.at sp.drop.run
        cases o2 with
        | exc x2 S2 => cases h1; exact he S1 σ H1 Φ1 A1 F1 G1 st1 _ e2 _ (XS.xp (σ := σ) q1)
        | ok re S2 =>
          refine he S1 σ H1 Φ1 A1 F1 G1 st1 _ e2 _ fun y H2 Φ2 A2 T2 F2 G2 sp2 st2 rv2 nd2 fz2 => ?_
          dsimp only at h1
          cases ek : re.kid S2 with
          | none => rw [ek] at h1; cases h1
          | some z =>
            obtain ⟨x3, S3⟩ := z
            rw [ek] at h1
            dsimp only at h1
            have ro2 := RV.step st1 rv nd sp2.drop fz2
            have ndo2 : (T ++ (F2 ++ G2)).Nodup := by
              have := sp2.apart (fun b hb => (rv.there b hb).1) nd (by rw [List.append_assoc]; exact nd2)
              simp only [List.nodup_append, List.mem_append] at this ⊢; grind
            obtain ⟨Φ3, F3, sp3, st3, rs3, fz3⟩ := kid_ok st2 rv2 nd2 ek
            have ro3 := RV.step st2 ro2 ndo2 sp3 fz3
            have nd3 : (T2 ++ (F3 ++ G2)).Nodup := sp3.apart (fun b hb => (rv2.there b hb).1) nd2 st3.nd
            cases ep : insAt0 ro x3 S3 with
            | none => rw [ep] at h1; cases h1
            | some S4 =>
              rw [ep] at h1; cases h1
              unfold insAt0 at ep
              cases ro with
              | val z => cases ep
              | bor i p =>
                dsimp only at ep
                cases es : S3.sub i p with
                | none => rw [es] at ep; cases ep
                | some z =>
                  rw [es] at ep
                  cases z with
                  | dat d => cases ep
                  | cell c => cases ep
                  | node n ys =>
                    cases n <;> try cases ep
                    dsimp only at ep
                    by_cases hl : ys.length < 1000000
                    · rw [if_pos hl] at ep
                      obtain ⟨a, vs, Fx, rfl, ea, f, qs, hF, ndx, up⟩ := mut_slot st3 es ro3
                      have hl' : vs.length < sizeLine := by rw [qs.length]; exact Nat.lt_of_lt_of_le hl (by rw [sizeLine_eq]; decide)
                      have nea : ∀ b, b ∈ Fx ++ T2 → b ≠ a := fun b hb z => by
                        subst z
                        rcases List.mem_append.mp hb with hb | hb
                        · exact (List.nodup_cons.mp ndx).1 hb
                        · exact (List.nodup_append.mp nd3).2.2 b hb b (List.mem_append_left _ (hF b (List.mem_cons_self ..))) rfl
                      have rs' : RSs K Φ3 (upd H2 a (Nd.lst.ho (y :: vs))) A2 (y :: vs) (x3 :: ys) (T2 ++ Fx) :=
                        .cons (rs3.frame (Same.refl _) Pfx.refl (fun b hb => upd_ne (nea b (by simp [hb]))) (fun b hb => (rs3.there b hb).2)) (qs.frame (Same.refl _) Pfx.refl (fun b hb => upd_ne (nea b (by simp [hb]))) (fun b hb => (qs.there b hb).2))
                      obtain ⟨F4, st4, rn4⟩ := up (n' := .lst) (T' := T2) nd3 (fun b hb => (rs3.there b hb).1) ⟨trivial, trivial⟩ rs' (fun b hb => (List.mem_append.mp hb).symm) (by
                        have h1 := List.nodup_cons.mp ndx
                        refine List.nodup_append.mpr ⟨(List.nodup_append.mp nd3).1, h1.2, fun a ha b hb e => ?_⟩
                        subst e
                        exact (List.nodup_append.mp nd3).2.2 a ha a (List.mem_append_left _ (hF a (List.mem_cons_of_mem _ hb))) rfl) ep
                      have s23 : Step F1 G1 H1 Φ1 A1 (T2 ++ F3) G2 H2 Φ3 A2 := Step.trans (T1 := []) sp2 sp3
                      exact ⟨a, vs, 0, y, rfl, rfl, ea, hl', by decide, by decide, q1 σ _ Φ3 A2 F4 G2 (s23.run.trans rn4) st4⟩
                    · rw [if_neg hl] at ep; cases ep
section
variable {X : Cx} {W : WX} {o e : Expr} {pos apos cpos ipos : Pos} {ij : Nat} {to te : TE} {fo fe : FE}
theorem ds_insert0 (ho : DE X W o to fo) (he : DE X W e te fe) (hs : swapsWith (.Call (.Attribute o "insert" apos) [.Constant (.int 0) ij ipos, e] [] cpos) none pos.line X.env = pure false := by rfl)
    (hbase : attributeBase o "insert" X.env (eval o X.env) = eval o X.env := by rfl)
    (hfew : ((backTo cpos (starEach [.Constant (.int 0) ij ipos, e] X.env)).all (fun x => !x.1) && (backToKw cpos (keywordEach [] X.env)).all (fun x => x.1.isSome)
      && decide ([Expr.Constant (.int 0) ij ipos, e].length + ([] : List Keyword).length + (if ([] : List Keyword).isEmpty then 0 else 1) < 30)) = true := by rfl)
    (hline : (apos.endLine == cpos.line) = true := by rfl) (hst0 : starEach [.Constant (.int 0) ij ipos, e] X.env = (false, eval (.Constant (.int 0) ij ipos) X.env) :: starEach [e] X.env := by rfl) (hst : starEach [e] X.env = (false, eval e X.env) :: starEach [] X.env := by rfl) (hplain : (backTo cpos (starEach [e] X.env)).any (·.1) = false := by rfl) :
    DS X W (.Expr (.Call (.Attribute o "insert" apos) [.Constant (.int 0) ij ipos, e] [] cpos) pos) (tDrop (tBM X.K "list" rIns to (tCons (tC (.int 0)) (tCons te tNil)))) (fInsert0 fo fe) :=
  ⟨ps_expr (pe_bm PySem.F.plainAttrs_list PySem.F.slot_list_insert PySem.F.type_list_insert mt_insert ho.pe (pa_cons pe_int (pa_cons he.pe pa_nil hst) hst0) hbase hfew hline hst0 hplain) hs, ev_insert0 ho.ev he.ev⟩
end
/-! ### isinstance(e, T), T a built-in type -/
def tyD : D → Option String
  | .non => some "NoneType"
  | .bl _ => some "bool"
  | .int _ => some "int"
  | .str _ => some "str"
  | .lst _ => some "list"
  | .tup _ => some "tuple"
  | .dK _ _ => some "dict"
  | _ => none
theorem tyD_ok {K : PySem.W.Frag} {H : Hp} {v : V} {d : D} {n : String} (r : Rp K H v d) (e : tyD d = some n) : TyX K H v (.type n) := by
  cases r with
  | non => cases e; exact .base .non
  | bl b => cases e; exact .base (.bl b)
  | int i => cases e; exact .base (.int i)
  | str x => cases e; exact .base (.str x)
  | lst q _ => cases e; exact .base (.lst q)
  | tup q _ => cases e; exact .base (.tup q)
  | dK q _ _ =>
    cases e
    rcases q with q | ⟨o, q⟩
    · exact .base (.dK q)
    · exact .fDict q
  | _ => cases e
def isiD (T : String) (d : D) : Option D := (tyD d).bind fun n => (kitB n T).map D.bl
def fIsi (T : String) (fe : FE) : FE := bindE fe fun r S => ((r.peek S).bind (isiD T)).map fun z => .ok (.d z) S
section
variable {X : Cx} {W : WX} {e : Expr} {te : TE} {fe : FE} {p p2 pos : Pos} {x : Str} {T : String}
theorem de_isi (hm : X.mg "isinstance" = none) (hm2 : X.mg x = none) (hv : bootBuiltins x = some (.type T)) (he : DE X W e te fe) (hg : Gl X "isinstance" := by rfl) (hg2 : Gl X x := by rfl) (hn : x ≠ "__name__" := by decide) (hd : (x == ("__debug__" : Str)) = false := by decide)
    (hs1 : starEach [e, .Name x p2] X.env = (false, eval e X.env) :: starEach [.Name x p2] X.env := by rfl) (hs2 : starEach [.Name x p2] X.env = (false, eval (.Name x p2) X.env) :: starEach [] X.env := by rfl) (hpl : (backTo pos (starEach [.Name x p2] X.env)).any (·.1) = false := by rfl) :
    DE X W (.Call (.Name "isinstance" p) [e, .Name x p2] [] pos) (tCB (rIsi X.K) (tCons te (tCons (tC (.ty T)) tNil))) (fIsi T fe) :=
  ⟨pe_callB call_isi hg hm PyProof.Rows.boot_isinstance (pa_cons he.pe (pa_cons (pe_bltn (v := .ty T) hg2 hm2 hv rfl hn hd) pa_nil hs2) hs1) (by decide) (by decide) hs1 hpl, fun S σ H Φ A F G st out ho Q q => by
    refine run1 (t := te) he.ev st ho q.x fun r S1 v H1 Φ1 A1 T1 F1 G1 sp st1 rv nd fz h1 => ?_
    cases e1 : r.peek S1 with
    | none => rw [e1] at h1; cases h1
    | some d =>
      rw [e1] at h1
      have rp := rv.rp st1 e1
      have h1 : (isiD T d).map (fun z => Out.ok (R.d z) S1) = some out := h1
      unfold isiD at h1
      cases en : tyD d with
      | none => rw [en] at h1; cases h1
      | some n =>
        rw [en] at h1
        have h1 : ((kitB n T).map D.bl).map (fun z => Out.ok (R.d z) S1) = some out := h1
        cases ek : kitB n T with
        | none => rw [ek] at h1; cases h1
        | some b =>
          rw [ek] at h1; cases h1
          exact ⟨v, .ty T, .type n, .type T, b, rfl, .ty T, tyD_ok rp en, kit_ty ek, q _ H1 Φ1 A1 [] F1 G1 sp.drop st1 (RS.dat (.bl b)) (by simpa using st1.nd) fz⟩⟩
end
end L3

namespace L3
open PySem PySem.Spec PyProof.Rows L2

/-! ### what the functions give: told backwards -/
/-- what simp is to leave as it is -/
inductive Dep {α : Sort u} (x : α) : Type | mk
def Ob {α : Type} (o : Option α) (k : α → Prop) (_ : Dep k := .mk) : Prop := ∃ x, o = some x ∧ k x
def Gb {α β : Type} (o : Option (α × β)) (k : α → β → Prop) (_ : Dep k := .mk) : Prop := ∃ x y, o = some (x, y) ∧ k x y
def Wb {α : Type} (f : Sto → Option (Out α)) (S : Sto) (Q : α → Sto → Prop) (X : Ex → Sto → Prop) (_ : Dep f := .mk) (_ : Dep Q := .mk) (_ : Dep X := .mk) : Prop := ∃ r, f S = some r ∧ match r with
  | .ok a S' => Q a S'
  | .exc e S' => X e S'
def Ws (f : FS) (S : Sto) (P : SO → Prop) (_ : Dep f := .mk) (_ : Dep P := .mk) : Prop := ∃ o, f S = some o ∧ P o
def Wf (F : FnS) (as : List SV) (μ : List SV) (Q : SV → List SV → Prop) (X : Ex → List SV → Prop) (_ : Dep Q := .mk) (_ : Dep X := .mk) : Prop := ∃ r, F as μ = some r ∧ match r with
  | .ok x μ' => Q x μ'
  | .exc e μ' => X e μ'
section
variable {α β γ : Type} {k : α → Prop} {kk : α → β → Prop} {x : α} {y : β}
@[simp] theorem ob_some : Ob (some x) k = k x := by unfold Ob; simp
@[simp] theorem ob_none : Ob none k = False := by unfold Ob; simp
@[simp] theorem gb_some : Gb (some (x, y)) kk = kk x y := propext ⟨fun ⟨a, b, e, q⟩ => by cases e; exact q, fun q => ⟨x, y, rfl, q⟩⟩
@[simp] theorem gb_some' {z : α × β} : Gb (some z) kk = kk z.1 z.2 := by obtain ⟨a, b⟩ := z; simp
@[simp] theorem gb_none : Gb none kk = False := by unfold Gb; simp
@[simp] theorem ob_if {c : Prop} [Decidable c] {o : Option α} : Ob (if c then o else none) k = (c ∧ Ob o k) := by
  by_cases h : c <;> simp [h]
@[simp] theorem gb_if {c : Prop} [Decidable c] {o : Option (α × β)} : Gb (if c then o else none) kk = (c ∧ Gb o kk) := by
  by_cases h : c <;> simp [h]
@[simp] theorem gb_ifn {c : Prop} [Decidable c] {o : Option (α × β)} : Gb (if c then none else o) kk = (¬c ∧ Gb o kk) := by
  by_cases h : c <;> simp [h]
@[simp] theorem gb_map {o : Option γ} {f : γ → α × β} : Gb (o.map f) kk = Ob o fun z => kk (f z).1 (f z).2 := by cases o <;> simp
@[simp] theorem ob_map {o : Option γ} {f : γ → α} : Ob (o.map f) k = Ob o fun z => k (f z) := by cases o <;> simp
@[simp] theorem gb_bind {o : Option γ} {f : γ → Option (α × β)} : Gb (o.bind f) kk = Ob o fun z => Gb (f z) kk := by cases o <;> simp
@[simp] theorem ob_bind {o : Option γ} {f : γ → Option α} : Ob (o.bind f) k = Ob o fun z => Ob (f z) k := by cases o <;> simp
end
section
variable {α β : Type} {f : Sto → Option (Out α)} {g : α → Sto → Option (Out β)} {S S' : Sto} {Q : α → Sto → Prop} {Q2 : β → Sto → Prop} {X : Ex → Sto → Prop} {P : SO → Prop}
theorem wb_ext {Q' : α → Sto → Prop} (h : ∀ a S, Q a S = Q' a S) : Wb f S Q X = Wb f S Q' X := by
  have : Q = Q' := funext fun a => funext fun S => h a S
  subst this; rfl
theorem wb_ok {a : α} (h : f S = some (.ok a S')) : Wb f S Q X = Q a S' := by unfold Wb; rw [h]; simp
theorem wb_mono {Q' : α → Sto → Prop} {X' : Ex → Sto → Prop} (h : Wb f S Q X) (hQ : ∀ a S', Q a S' → Q' a S') (hX : ∀ e S', X e S' → X' e S') : Wb f S Q' X' := by
  obtain ⟨r, e, q⟩ := h
  refine ⟨r, e, ?_⟩
  cases r with
  | ok a S1 => exact hQ _ _ q
  | exc e S1 => exact hX _ _ q
theorem ws_mono {f : FS} {P' : SO → Prop} (h : Ws f S P) (hP : ∀ o, P o → P' o) : Ws f S P' := by
  obtain ⟨r, e, q⟩ := h
  exact ⟨r, e, hP _ q⟩
theorem wf_mono {F : FnS} {as : List SV} {μ : List SV} {Q Q' : SV → List SV → Prop} {X X' : Ex → List SV → Prop} (h : Wf F as μ Q X) (hQ : ∀ a S', Q a S' → Q' a S') (hX : ∀ e S', X e S' → X' e S') : Wf F as μ Q' X' := by
  obtain ⟨r, e, q⟩ := h
  refine ⟨r, e, ?_⟩
  cases r with
  | ok a S1 => exact hQ _ _ q
  | exc e S1 => exact hX _ _ q
@[simp] theorem wb_bind : Wb (bindE f g) S Q2 X = Wb f S (fun a S1 => Wb (g a) S1 Q2 X) X := by
  unfold Wb bindE
  cases e : f S with
  | none => simp
  | some r => cases r <;> simp
@[simp] theorem wb_ret {a : α} : Wb (retE a) S Q X = Q a S := by unfold Wb retE; simp
end
section
variable {S S' : Sto} {Q : R → Sto → Prop} {QT : Bool → Sto → Prop} {QA : List R → Sto → Prop} {QI : List D → Sto → Prop} {X : Ex → Sto → Prop} {P : SO → Prop} {fa fb fe fo fi : FE} {ft fu : FT} {fA : FA} {f g : FS} {i : Nat} {d : D} {ρ : List (Option SV)} {μ : List SV}
@[simp] theorem wb_var : Wb (fVar i) ⟨ρ, μ⟩ Q X = Ob (ρ[i]?) fun o => Ob o fun _ => Q (.bor i []) ⟨ρ, μ⟩ := by
  unfold Wb fVar
  cases e : ρ[i]? with
  | none => simp [e]
  | some o => cases o <;> simp [e]
@[simp] theorem wb_c : Wb (fC d) S Q X = Q (.d d) S := by unfold Wb fC; simp
theorem wb_of {h : Sto → Option (R × Sto)} : Wb (fun S => (h S).map fun z => .ok z.1 z.2) S Q X = Gb (h S) Q := by
  unfold Wb
  cases e : h S <;> simp [e]
@[simp] theorem wb_bin {g : G2} : Wb (fBin g fa fb) S Q X = Wb fa S (fun ra S1 => Wb fb S1 (fun rb S2 => Gb (g ra rb S2) Q) X) X := by
  unfold fBin; rw [wb_bind]; refine wb_ext fun ra S1 => ?_; rw [wb_bind]; refine wb_ext fun rb S2 => ?_; exact wb_of (h := fun S => g ra rb S)
@[simp] theorem wb_B {g : GB} : Wb (fB g fA) S Q X = Wb fA S (fun rs S1 => Gb (g rs S1) Q) X := by
  unfold fB; rw [wb_bind]; refine wb_ext fun rs S1 => ?_; exact wb_of (h := fun S => g rs S)
@[simp] theorem wb_test : Wb (fTest fe) S QT X = Wb fe S (fun r S1 => Ob (r.bl S1) fun b => QT b S1) X := by
  unfold fTest; rw [wb_bind]; refine wb_ext fun r S1 => ?_
  unfold Wb; cases e : r.bl S1 <;> simp [e]
@[simp] theorem wb_tru : Wb (fTru fe) S QT X = Wb fe S (fun r S1 => Ob (r.tru S1) fun b => QT b S1) X := by
  unfold fTru; rw [wb_bind]; refine wb_ext fun r S1 => ?_
  unfold Wb; cases e : r.tru S1 <;> simp [e]
/-- a branch -/
def br (b : Bool) (p q : Prop) (_ : Dep p := .mk) (_ : Dep q := .mk) : Prop := if b = true then p else q
@[simp] theorem br_t {p q : Prop} : br true p q = p := if_pos rfl
@[simp] theorem br_f {p q : Prop} : br false p q = q := if_neg (by decide)
@[simp] theorem br_dec {c : Prop} [Decidable c] {p q : Prop} : br (decide c) p q = ((c → p) ∧ (¬c → q)) := by
  by_cases h : c <;> simp [h]
@[simp] theorem br_not {b : Bool} {p q : Prop} : br (!b) p q = br b q p := by cases b <;> simp
theorem br_of {b : Bool} {p q : Prop} (h1 : b = true → p) (h2 : b = false → q) : br b p q := by cases b <;> simp_all
@[simp] theorem wb_and : Wb (fAnd ft fu) S QT X = Wb ft S (fun b S1 => br b (Wb fu S1 QT X) (QT false S1)) X := by
  unfold fAnd; rw [wb_bind]; refine wb_ext fun b S1 => ?_; cases b <;> simp
@[simp] theorem wb_or : Wb (fOr ft fu) S QT X = Wb ft S (fun b S1 => br b (QT true S1) (Wb fu S1 QT X)) X := by
  unfold fOr; rw [wb_bind]; refine wb_ext fun b S1 => ?_; cases b <;> simp
@[simp] theorem wb_not : Wb (fNot ft) S QT X = Wb ft S (fun b S1 => QT (!b) S1) X := by unfold fNot; rw [wb_bind]; refine wb_ext fun b S1 => ?_; simp
@[simp] theorem wb_ifE : Wb (fIfE ft fa fb) S Q X = Wb ft S (fun b S1 => br b (Wb fa S1 Q X) (Wb fb S1 Q X)) X := by
  unfold fIfE; rw [wb_bind]; refine wb_ext fun b S1 => ?_; cases b <;> simp
@[simp] theorem wb_orV : Wb (fOrV fa fb) S Q X = Wb fa S (fun r S1 => Ob (r.tru S1) fun b => br b (Q r S1) (Wb fb S1 Q X)) X := by
  unfold fOrV; rw [wb_bind]; refine wb_ext fun r S1 => ?_
  unfold Wb; cases e : r.tru S1 with
  | none => simp [e]
  | some b => cases b <;> simp [e]
@[simp] theorem wb_andV : Wb (fAndV fa fb) S Q X = Wb fa S (fun r S1 => Ob (r.tru S1) fun b => br b (Wb fb S1 Q X) (Q r S1)) X := by
  unfold fAndV; rw [wb_bind]; refine wb_ext fun r S1 => ?_
  unfold Wb; cases e : r.tru S1 with
  | none => simp [e]
  | some b => cases b <;> simp [e]
@[simp] theorem wb_notV : Wb (fNotV fa) S Q X = Wb fa S (fun r S1 => Ob (r.tru S1) fun b => Q (.b (!b)) S1) X := by
  unfold fNotV; rw [wb_bind]; refine wb_ext fun r S1 => ?_
  unfold Wb; cases e : r.tru S1 <;> simp [e]
@[simp] theorem wb_nil : Wb fNil S QA X = QA [] S := by unfold Wb fNil; simp
@[simp] theorem wb_cons {fA : FA} : Wb (fCons fe fA) S QA X = Wb fe S (fun r S1 => Wb fA S1 (fun rs S2 => QA (r :: rs) S2) X) X := by
  unfold fCons; rw [wb_bind]; refine wb_ext fun r S1 => ?_; rw [wb_bind]; refine wb_ext fun rs S2 => ?_; rw [wb_ret]
@[simp] theorem wb_tup : Wb (fTup fA) S Q X = Wb fA S (fun rs S1 => rs.length ≤ 1000 ∧ Gb (escs rs S1) fun ds S2 => Q (.d (.tup ds)) S2) X := by
  unfold fTup; rw [wb_bind]; refine wb_ext fun rs S1 => ?_
  unfold Wb
  by_cases h : rs.length ≤ 1000
  · cases e : escs rs S1 <;> simp [h, e]
  · simp [h]
@[simp] theorem wb_lst : Wb (fLst fA) S Q X = Wb fA S (fun rs S1 => rs.length ≤ 1000 ∧ Gb (kids rs S1) fun xs S2 => Q (.val (.own xs)) S2) X := by
  unfold fLst; rw [wb_bind]; refine wb_ext fun rs S1 => ?_
  unfold Wb
  by_cases h : rs.length ≤ 1000
  · cases e : kids rs S1 <;> simp [h, e]
  · simp [h]
@[simp] theorem wb_frz : Wb (fFrz fe) S Q X = Wb fe S (fun r S1 => Gb (r.esc S1) fun d S2 => Q (.d d) S2) X := by
  unfold fFrz; rw [wb_bind]; refine wb_ext fun r S1 => ?_
  unfold Wb; cases e : r.esc S1 <;> simp [e]
@[simp] theorem wb_neg : Wb (fNeg fe) S Q X = Wb fe S (fun r S1 => Ob (r.peek S1) fun d => Ob (negD d) fun z => Q (.d z) S1) X := by
  unfold fNeg; rw [wb_bind]; refine wb_ext fun r S1 => ?_
  unfold Wb; cases e : r.peek S1 with
  | none => simp [e]
  | some d => cases e2 : negD d <;> simp [e, e2]
@[simp] theorem wb_go {F : FnS} {dfl : List SV} : Wb (fGo F dfl fA) S Q X = Wb fA S (fun rs S1 => Gb (argsOf rs S1) fun as S2 => Wf F (as ++ dfl) S2.μ (fun x μ' => Q (.val x) ⟨S2.ρ, μ'⟩) (fun e μ' => X e ⟨S2.ρ, μ'⟩)) X := by
  unfold fGo; rw [wb_bind]; refine wb_ext fun rs S1 => ?_
  unfold Wb Wf
  cases e : argsOf rs S1 with
  | none => simp [e]
  | some z =>
    obtain ⟨as, S2⟩ := z
    simp only [e, gb_some]
    cases e2 : F (as ++ dfl) S2.μ with
    | none => simp
    | some r => cases r <;> simp
@[simp] theorem wb_m1 {g : G2} : Wb (fM1 g fo fe) S Q X = Wb fo S (fun ro S1 => ((ro.peek S1).map isStr) = some true ∧ Wb fe S1 (fun re S2 => Gb (g ro re S2) Q) X) X := by
  unfold fM1; rw [wb_bind]; refine wb_ext fun ro S1 => ?_
  by_cases h : ((ro.peek S1).map isStr) = some true
  · simp only [h, if_true, true_and]
    have e : Wb (fun S => if True then bindE fe (fun re S2 => (g ro re S2).map fun z => Out.ok z.1 z.2) S1 else none) S1 Q X = Wb (bindE fe (fun re S2 => (g ro re S2).map fun z => Out.ok z.1 z.2)) S1 Q X := by unfold Wb; simp
    have e2 : Wb (fun S1 => if ((ro.peek S1).map isStr) = some true then bindE fe (fun re S2 => (g ro re S2).map fun z => Out.ok z.1 z.2) S1 else none) S1 Q X = Wb (bindE fe (fun re S2 => (g ro re S2).map fun z => Out.ok z.1 z.2)) S1 Q X := by unfold Wb; simp [h]
    rw [e2, wb_bind]; refine wb_ext fun re S2 => ?_; exact wb_of (h := fun S => g ro re S)
  · unfold Wb; simp [h]
/-- what a datum is walked as -/
def itsD : D → Option (List D)
  | .lst ds => some ds
  | .tup ds => some ds
  | .kt ds => some ds
  | .str x => some (signs x)
  | _ => none
@[simp] theorem itsD_l {ds : List D} : itsD (.lst ds) = some ds := rfl
@[simp] theorem itsD_t {ds : List D} : itsD (.tup ds) = some ds := rfl
@[simp] theorem itsD_kt {ds : List D} : itsD (.kt ds) = some ds := rfl
@[simp] theorem itsD_s {x : Str} : itsD (.str x) = some (signs x) := rfl
@[simp] theorem wb_items : Wb (fItems fe) S QI X = Wb fe S (fun r S1 => Gb (r.esc S1) fun d S2 => Ob (itsD d) fun ds => QI ds S2) X := by
  unfold fItems; rw [wb_bind]; refine wb_ext fun r S1 => ?_
  unfold Wb
  cases e : r.esc S1 with
  | none => simp [e]
  | some z => obtain ⟨d, S2⟩ := z; cases d <;> simp [e, itsD]
@[simp] theorem wb_range {g : List D → Option (List D)} : Wb (fRange g fA) S QI X = Wb fA S (fun rs S1 => Ob (peeksR rs S1) fun ds => Ob (g ds) fun is => QI is S1) X := by
  unfold fRange; rw [wb_bind]; refine wb_ext fun r S1 => ?_
  unfold Wb
  cases e : peeksR r S1 with
  | none => simp [e]
  | some ds => cases e2 : g ds <;> simp [e, e2]
def fCompTail (tg : Tg) (ft : FT) (fe : FE) (vs : List Nat) (ds : List D) (S : Sto) (Q : R → Sto → Prop) : Prop := Gb (compF tg ft fe vs ds [] (S.wipe vs)) fun acc S1 => Q (.val (.own acc)) S1
@[simp] theorem wb_comp {tg : Tg} {fi : FI} {vs : List Nat} : Wb (fComp tg fi ft fe vs) S Q X = Wb fi S (fun ds S1 => fCompTail tg ft fe vs ds S1 Q) X := by
  unfold fComp fCompTail; rw [wb_bind]; refine wb_ext fun ds S1 => ?_
  unfold Wb
  cases e : compF tg ft fe vs ds [] (S1.wipe vs) with
  | none => simp [e]
  | some z => obtain ⟨acc, S2⟩ := z; simp [e]
@[simp] theorem wb_sl {lo hi : Option FE} : Wb (fSl fa lo hi) S Q X = Wb fa S (fun ra S1 => Wb (fPart lo) S1 (fun l S2 => Wb (fPart hi) S2 (fun h S3 => Gb (gSl ra l h S3) Q) X) X) X := by
  unfold fSl; rw [wb_bind]; refine wb_ext fun ra S1 => ?_; rw [wb_bind]; refine wb_ext fun l S2 => ?_; rw [wb_bind]; refine wb_ext fun h S3 => ?_; exact wb_of (h := fun S => gSl ra l h S)
@[simp] theorem wb_part0 {Q : Option Int → Sto → Prop} : Wb (fPart none) S Q X = Q none S := by unfold Wb fPart; simp
@[simp] theorem wb_part1 {Q : Option Int → Sto → Prop} : Wb (fPart (some fe)) S Q X = Wb fe S (fun r S1 => Ob (r.peek S1) fun d => Ob (intOf d) fun i => Q (some i) S1) X := by
  unfold fPart; rw [wb_bind]; refine wb_ext fun r S1 => ?_
  unfold Wb
  cases e : r.peek S1 with
  | none => simp [e]
  | some d => cases e2 : intOf d <;> simp [e, e2]
@[simp] theorem wb_yes : Wb fYes S QT X = QT true S := by unfold fYes; simp
@[simp] theorem wb_pairs0 {Q : List (Key × R) → Sto → Prop} : Wb (fPairs []) S Q X = Q [] S := (show Wb (retE []) S Q X = _ from wb_ret)
@[simp] theorem wb_pairs {fk fv : FE} {r : List (FE × FE)} {Q : List (Key × R) → Sto → Prop} : Wb (fPairs ((fk, fv) :: r)) S Q X = Wb fk S (fun rk S1 => Ob (rk.peek S1) fun d => Ob (d.key) fun k => Wb fv S1 (fun rv S2 => Wb (fPairs r) S2 (fun ps S3 => Q ((k, rv) :: ps) S3) X) X) X := by
  refine Eq.trans (b := Wb (bindE fk fun rk S1 => match (rk.peek S1).bind D.key with | some k => bindE fv (fun rv => bindE (fPairs r) fun ps => retE ((k, rv) :: ps)) S1 | none => none) S Q X) rfl ?_
  rw [wb_bind]; refine wb_ext fun rk S1 => ?_
  cases e : rk.peek S1 with
  | none => unfold Wb; simp [e]
  | some d =>
    cases e2 : d.key with
    | none => unfold Wb; simp [e, e2]
    | some k =>
      have e3 : Wb (fun S1 => match (rk.peek S1).bind D.key with
        | some k => bindE fv (fun rv => bindE (fPairs r) fun ps => retE ((k, rv) :: ps)) S1
        | none => none) S1 Q X = Wb (bindE fv (fun rv => bindE (fPairs r) fun ps => retE ((k, rv) :: ps))) S1 Q X := by unfold Wb; simp [e, e2]
      refine e3.trans ?_; simp only [e2, ob_some]; rw [wb_bind]; refine wb_ext fun rv S2 => ?_; rw [wb_bind]; refine wb_ext fun ps S3 => ?_; rw [wb_ret]
@[simp] theorem wb_disp {fps : List (FE × FE)} : Wb (fDisp fps) S Q X = Wb (fPairs fps) S (fun kr S1 => ((kr.map (·.1)).Nodup ∧ kr.length ≤ 15) ∧ Gb (kids (kr.map (·.2)) S1) fun xs S2 => Q (.val (.node (.dK (kr.map (·.1))) xs)) S2) X := by
  unfold fDisp; rw [wb_bind]; refine wb_ext fun kr S1 => ?_
  unfold Wb
  by_cases h : (kr.map (·.1)).Nodup ∧ kr.length ≤ 15
  · cases e : kids (kr.map (·.2)) S1 <;> simp [h, e]
  · simp [h]
@[simp] theorem wb_dnew {n : Nd} : Wb (fDNew n) S Q X = Q (.val (.node n [])) S := by unfold Wb fDNew; simp
/-! statements -/
def sq (g : FS) (P : SO → Prop) (o : SO) : Prop := match o with
  | .nx S => Ws g S P
  | o => P o
@[simp] theorem sq_nx : sq g P (.nx S) = Ws g S P := rfl
@[simp] theorem sq_rt {x : SV} : sq g P (.rt x μ) = P (.rt x μ) := rfl
@[simp] theorem sq_bk : sq g P (.bk S) = P (.bk S) := rfl
@[simp] theorem sq_ct : sq g P (.ct S) = P (.ct S) := rfl
@[simp] theorem sq_exc {e : Ex} : sq g P (.exc e S) = P (.exc e S) := rfl
@[simp] theorem ws_seq : Ws (fSeq f g) S P = Ws f S (sq g P) := by
  unfold Ws fSeq
  cases e : f S with
  | none => simp
  | some o => cases o <;> simp [sq, Ws]
theorem ws_bind {α : Type} {f : Sto → Option (Out α)} {k : α → FS} : Ws (bindS f k) S P = Wb f S (fun a S1 => Ws (k a) S1 P) (fun e S1 => P (.exc e S1)) := by
  unfold Ws bindS Wb
  cases e : f S with
  | none => simp
  | some o => cases o <;> simp
@[simp] theorem ws_next : Ws fNext S P = P (.nx S) := by unfold Ws fNext; simp
@[simp] theorem ws_brk : Ws fBrk S P = P (.bk S) := by unfold Ws fBrk; simp
@[simp] theorem ws_cont : Ws fCont S P = P (.ct S) := by unfold Ws fCont; simp
@[simp] theorem ws_expr : Ws (fExpr fe) S P = Wb fe S (fun _ S1 => P (.nx S1)) (fun e S1 => P (.exc e S1)) := by
  unfold fExpr; rw [ws_bind]; refine wb_ext fun r S1 => ?_; unfold Ws; simp
@[simp] theorem ws_ret : Ws (fRet fe) S P = Wb fe S (fun r S1 => Ob (r.sv S1) fun x => P (.rt x S1.μ)) (fun e S1 => P (.exc e S1)) := by
  unfold fRet; rw [ws_bind]; refine wb_ext fun r S1 => ?_; unfold Ws; cases e : r.sv S1 <;> simp [e]
@[simp] theorem ws_retN : Ws fRetN S P = P (.rt (.dat .non) S.μ) := by unfold Ws fRetN; simp
@[simp] theorem ws_if : Ws (fIf ft f g) S P = Wb ft S (fun b S1 => br b (Ws f S1 P) (Ws g S1 P)) (fun e S1 => P (.exc e S1)) := by
  unfold fIf; rw [ws_bind]; refine wb_ext fun b S1 => ?_; cases b <;> simp
@[simp] theorem ws_set : Ws (fSet i fe) S P = Wb fe S (fun r S1 => Gb (r.kid S1) fun x S2 => Ob (S2.put i x) fun S3 => P (.nx S3)) (fun e S1 => P (.exc e S1)) := by
  unfold fSet; rw [ws_bind]; refine wb_ext fun r S1 => ?_; unfold Ws
  cases e : r.kid S1 with
  | none => simp [e]
  | some z => obtain ⟨x, S2⟩ := z; cases e2 : S2.put i x <;> simp [e, e2]
@[simp] theorem ws_asg {tg : Tg} : Ws (fAsg tg fe) S P = Wb fe S (fun r S1 => Gb (r.esc S1) fun d S2 => Ob (tgS tg d S2.ρ) fun ρ => P (.nx ⟨ρ, S2.μ⟩)) (fun e S1 => P (.exc e S1)) := by
  unfold fAsg; rw [ws_bind]; refine wb_ext fun r S1 => ?_; unfold Ws
  cases e : r.esc S1 with
  | none => simp [e]
  | some z => obtain ⟨x, S2⟩ := z; cases e2 : tgS tg x S2.ρ <;> simp [e, e2]
@[simp] theorem ws_par {is : List Nat} : Ws (fPar is fA) S P = Wb fA S (fun rs S1 => Gb (kids rs S1) fun xs S2 => Ob (putAll is xs S2) fun S3 => P (.nx S3)) (fun e S1 => P (.exc e S1)) := by
  unfold fPar; rw [ws_bind]; refine wb_ext fun r S1 => ?_; unfold Ws
  cases e : kids r S1 with
  | none => simp [e]
  | some z => obtain ⟨x, S2⟩ := z; cases e2 : putAll is x S2 <;> simp [e, e2]
@[simp] theorem ws_for {tg : Tg} {fI : FI} : Ws (fFor tg fI f) S P = Wb fI S (fun ds S1 => Ws (forF tg f ds) S1 P) (fun e S1 => P (.exc e S1)) := by
  unfold fFor; rw [ws_bind]
@[simp] theorem ws_app : Ws (fAppend fo fe) S P = Wb fo S (fun ro S1 => Ob (ro.sv S1) fun x => match x with
    | .node .lst _ => Wb fe S1 (fun re S2 => Gb (re.kid S2) fun x S3 => Ob (pushAt ro x S3) fun S4 => P (.nx S4)) (fun e S1 => P (.exc e S1))
    | _ => False) (fun e S1 => P (.exc e S1)) := by
  unfold fAppend; rw [ws_bind]; refine wb_ext fun ro S1 => ?_
  cases ex : ro.sv S1 with
  | none => unfold Ws; simp [ex]
  | some x =>
    cases x with
    | dat d => unfold Ws; simp [ex]
    | cell c => unfold Ws; simp [ex]
    | node n xs =>
      cases n with
      | lst =>
        simp only [ob_some]
        have e : Ws (fun S1 => match ro.sv S1 with
          | some (.node .lst _) => bindS fe (fun re S2 => match re.kid S2 with
            | some (x, S3) => (pushAt ro x S3).map SO.nx
            | none => none) S1
          | _ => none) S1 P = Ws (bindS fe (fun re S2 => match re.kid S2 with
            | some (x, S3) => (pushAt ro x S3).map SO.nx
            | none => none)) S1 P := by unfold Ws; simp [ex]
        refine e.trans ?_; rw [ws_bind]; refine wb_ext fun re S2 => ?_; unfold Ws
        cases ek : re.kid S2 with
        | none => simp [ek]
        | some z => obtain ⟨x, S3⟩ := z; cases e2 : pushAt ro x S3 <;> simp [ek, e2]
      | _ => unfold Ws; simp [ex]
@[simp] theorem ws_store : Ws (fStore fo fi fe) S P = Wb fe S (fun re S1 => Wb fo S1 (fun ro S2 => Wb fi S2 (fun ri S3 => Gb (re.kid S3) fun x S4 => Ob (ri.peek S4) fun k => Ob (storeAt ro k x S4) fun S5 => P (.nx S5)) (fun e S1 => P (.exc e S1))) (fun e S1 => P (.exc e S1))) (fun e S1 => P (.exc e S1)) := by
  unfold fStore; rw [ws_bind]; refine wb_ext fun re S1 => ?_; rw [ws_bind]; refine wb_ext fun ro S2 => ?_; rw [ws_bind]; refine wb_ext fun ri S3 => ?_; unfold Ws
  cases ek : re.kid S3 with
  | none => simp [ek]
  | some z =>
    obtain ⟨x, S4⟩ := z
    cases e1 : ri.peek S4 with
    | none => simp [ek, e1]
    | some k => cases e2 : storeAt ro k x S4 <;> simp [ek, e1, e2]
@[simp] theorem ws_aug {g : G2} : Ws (fAug i g fe) ⟨ρ, μ⟩ P = Ob (ρ[i]?) fun o => Ob o fun _ => Wb fe ⟨ρ, μ⟩ (fun re S1 => Gb (g (.bor i []) re S1) fun rz S2 => Gb (rz.kid S2) fun x S3 => Ob (S3.put i x) fun S4 => P (.nx S4)) (fun e S1 => P (.exc e S1)) := by
  cases e0 : ρ[i]? with
  | none => unfold Ws fAug; simp [e0]
  | some o =>
    cases o with
    | none => unfold Ws fAug; simp [e0]
    | some x0 =>
      have e : Ws (fAug i g fe) ⟨ρ, μ⟩ P = Ws (bindS fe (fun re S1 => match g (.bor i []) re S1 with
        | some (rz, S2) => match rz.kid S2 with
          | some (x, S3) => (S3.put i x).map SO.nx
          | none => none
        | none => none)) ⟨ρ, μ⟩ P := by unfold Ws fAug; simp only [e0] <;> rfl
      rw [e, ws_bind]
      simp only [ob_some]
      refine wb_ext fun re S1 => ?_; unfold Ws
      cases e1 : g (.bor i []) re S1 with
      | none => simp [e1]
      | some z =>
        obtain ⟨rz, S2⟩ := z
        cases e2 : rz.kid S2 with
        | none => simp [e1, e2]
        | some w => obtain ⟨x, S3⟩ := w; cases e3 : S3.put i x <;> simp [e1, e2, e3]
def Sto.newCell (S : Sto) (i : Nat) (r : R) : Option Sto := match r with
  | .val (.node n xs) => ({ S with μ := S.μ ++ [.node n xs] } : Sto).put i (.cell S.μ.length)
  | _ => none
@[simp] theorem newCell_eq {n : Nd} {xs : List SV} : Sto.newCell ⟨ρ, μ⟩ i (.val (.node n xs)) = Sto.put ⟨ρ, μ ++ [.node n xs]⟩ i (.cell μ.length) := rfl
@[simp] theorem ws_setC : Ws (fSetC i fe) S P = Wb fe S (fun r S1 => Ob (S1.newCell i r) fun S2 => P (.nx S2)) (fun e S1 => P (.exc e S1)) := by
  unfold fSetC; rw [ws_bind]; refine wb_ext fun r S1 => ?_; unfold Ws Sto.newCell
  split
  · rename_i n xs
    cases e : ({ S1 with μ := S1.μ ++ [.node n xs] } : Sto).put i (.cell S1.μ.length) <;> simp [e]
  · simp
/-! a def -/
def retP (Q : SV → List SV → Prop) (X : Ex → List SV → Prop) : SO → Prop
  | .nx S => Q (.dat .non) S.μ
  | .rt x μ => Q x μ
  | .exc e S => X e S.μ
  | _ => False
section
variable {QF : SV → List SV → Prop} {XF : Ex → List SV → Prop}
@[simp] theorem retP_nx : retP QF XF (.nx S) = QF (.dat .non) S.μ := rfl
@[simp] theorem retP_rt {x : SV} : retP QF XF (.rt x μ) = QF x μ := rfl
@[simp] theorem retP_exc {e : Ex} : retP QF XF (.exc e S) = XF e S.μ := rfl
@[simp] theorem retP_bk : retP QF XF (.bk S) = False := rfl
@[simp] theorem retP_ct : retP QF XF (.ct S) = False := rfl
theorem wf_run {n m : Nat} {as : List SV} : Wf (runF n m f) as μ QF XF = (as.length = n ∧ Ws f ⟨as.map some ++ List.replicate (m - n) none, μ⟩ (retP QF XF)) := by
  unfold Wf runF Ws
  by_cases h : as.length = n
  · rw [if_pos h]
    cases e : f ⟨as.map some ++ List.replicate (m - n) none, μ⟩ with
    | none => simp
    | some o => cases o <;> simp [h, retP]
  · simp [h]
end
/-! loops -/
theorem forF_ind {tg : Tg} {ds : List D} (I : Nat → Sto → Prop) (h0 : I 0 S) (step : ∀ i d S, ds[i]? = some d → I i S → Ob (tgS tg d S.ρ) fun ρ => Ws f ⟨ρ, S.μ⟩ fun o => match o with
    | .nx S1 => I (i + 1) S1
    | .ct S1 => I (i + 1) S1
    | .bk S1 => P (.nx S1)
    | o => P o) (hend : ∀ S, I ds.length S → P (.nx S)) : Ws (forF tg f ds) S P := by
  induction ds generalizing S I with
  | nil => exact ⟨_, rfl, hend S h0⟩
  | cons d ds ih =>
    obtain ⟨ρ, e1, o, e2, q⟩ := step 0 d S rfl h0
    have e2 : f { S with ρ := ρ } = some o := e2
    have go : ∀ S1, I 1 S1 → Ws (forF tg f ds) S1 P := fun S1 h1 => ih (fun i => I (i + 1)) h1 (fun i d S hd hI => step (i + 1) d S (by simpa using hd) hI) (fun S h => hend S h)
    cases o with
    | nx S1 =>
      obtain ⟨o, eo, po⟩ := go S1 q
      exact ⟨o, by unfold forF; simp only [e1, e2]; exact eo, po⟩
    | ct S1 =>
      obtain ⟨o, eo, po⟩ := go S1 q
      exact ⟨o, by unfold forF; simp only [e1, e2]; exact eo, po⟩
    | bk S1 => exact ⟨_, by unfold forF; simp only [e1, e2], q⟩
    | rt x μ => exact ⟨_, by unfold forF; simp only [e1, e2], q⟩
    | exc e S1 => exact ⟨_, by unfold forF; simp only [e1, e2], q⟩
theorem whileF_ind {c : FT} (I : Nat → Sto → Prop) {m n : Nat} (h0 : I m S) (hn : m < n) (step : ∀ m S, I m S → Wb c S (fun b S1 => br b (Ws f S1 fun o => match o with
    | .nx S2 => ∃ m', m' < m ∧ I m' S2
    | .ct S2 => ∃ m', m' < m ∧ I m' S2
    | .bk S2 => P (.nx S2)
    | o => P o) (P (.nx S1))) (fun e S1 => P (.exc e S1))) : Ws (whileF n c f) S P := by
  induction n generalizing m S with
  | zero => omega
  | succ n ih =>
    obtain ⟨r, e1, q⟩ := step m S h0
    cases r with
    | exc e S1 => exact ⟨_, by unfold whileF; simp only [e1], q⟩
    | ok b S1 =>
      cases b with
      | false => simp only [br_f] at q; exact ⟨_, by unfold whileF; simp only [e1], q⟩
      | true =>
        simp only [br_t] at q
        obtain ⟨o, e2, q⟩ := q
        have go : ∀ S2, (∃ m', m' < m ∧ I m' S2) → Ws (whileF n c f) S2 P := fun S2 ⟨m', hm, hI⟩ => ih hI (by omega)
        cases o with
        | nx S2 =>
          obtain ⟨o, eo, po⟩ := go S2 q
          exact ⟨o, by unfold whileF; simp only [e1, e2]; exact eo, po⟩
        | ct S2 =>
          obtain ⟨o, eo, po⟩ := go S2 q
          exact ⟨o, by unfold whileF; simp only [e1, e2]; exact eo, po⟩
        | bk S2 => exact ⟨_, by unfold whileF; simp only [e1, e2], q⟩
        | rt x μ => exact ⟨_, by unfold whileF; simp only [e1, e2], q⟩
        | exc e S2 => exact ⟨_, by unfold whileF; simp only [e1, e2], q⟩
theorem compF_ind {tg : Tg} {vs : List Nat} {ds : List D} {acc : List SV} {Pc : List SV → Sto → Prop} (I : Nat → List SV → Sto → Prop) (h0 : I 0 acc S) (step : ∀ i d acc S, ds[i]? = some d → I i acc S → Ob (tgS tg d S.ρ) fun ρ => Wb ft ⟨ρ, S.μ⟩ (fun b S1 => br b
    (Wb fe S1 (fun y S2 => Gb (y.kid S2) fun x S3 => acc.length < 1000000 ∧ I (i + 1) (acc ++ [x]) (S3.wipe vs)) (fun _ _ => False)) (I (i + 1) acc (S1.wipe vs))) (fun _ _ => False)) (hend : ∀ acc S, I ds.length acc S → Pc acc S) : Gb (compF tg ft fe vs ds acc S) Pc := by
  induction ds generalizing S I acc with
  | nil => exact ⟨_, _, rfl, hend acc S h0⟩
  | cons d ds ih =>
    obtain ⟨ρ, e1, o, e2, q⟩ := step 0 d acc S rfl h0
    have e2 : ft { S with ρ := ρ } = some o := e2
    have go : ∀ acc S1, I 1 acc S1 → Gb (compF tg ft fe vs ds acc S1) Pc := fun acc S1 h1 => ih (fun i => I (i + 1)) h1 (fun i d acc S hd hI => step (i + 1) d acc S (by simpa using hd) hI) (fun acc S h => hend acc S h)
    cases o with
    | exc e S1 => exact q.elim
    | ok b S1 =>
      cases b with
      | false =>
        simp only [br_f] at q
        obtain ⟨a, S', eo, po⟩ := go acc _ q
        exact ⟨a, S', by unfold compF; simp only [e1, e2]; exact eo, po⟩
      | true =>
        simp only [br_t] at q
        obtain ⟨o, e3, q⟩ := q
        cases o with
        | exc e S1 => exact q.elim
        | ok y S2 =>
          obtain ⟨x, S3, e4, hl, q⟩ := q
          obtain ⟨a, S', eo, po⟩ := go _ _ q
          exact ⟨a, S', by unfold compF; simp only [e1, e2, e3, e4, if_pos hl]; exact eo, po⟩
end
end L3

namespace L3
open PySem PySem.Spec PyProof.Rows L2

/-! ### leaves, for simp -/
section
variable {S : Sto} {ρ : List (Option SV)} {μ : List SV} {x y : SV} {xs : List SV} {i j : Nat} {p : List Nat} {d : D} {ds es : List D} {n : Nd} {ra rb r : R} {kk : R → Sto → Prop} {k : Nat}
@[simp] theorem s_peek_val : R.peek S (.val x) = x.peek := rfl
@[simp] theorem s_peek_bor : R.peek S (.bor i p) = (S.sub i p).bind SV.peek := rfl
@[simp] theorem s_sv_val : R.sv S (.val x) = some x := rfl
@[simp] theorem s_sv_bor : R.sv S (.bor i p) = S.sub i p := rfl
@[simp] theorem s_sub0 : x.sub [] = some x := by cases x <;> rfl
@[simp] theorem s_sub1 : (SV.node n xs).sub (k :: p) = (xs[k]?).bind fun y => y.sub p := by
  show (match xs[k]? with | some y => y.sub p | none => none) = _
  cases xs[k]? <;> rfl
@[simp] theorem s_sub : Sto.sub ⟨ρ, μ⟩ i p = (ρ[i]?).bind fun o => o.bind fun x => x.sub p := by
  unfold Sto.sub
  show (match ρ[i]? with | some (some x) => x.sub p | _ => none) = _
  cases ρ[i]? with
  | none => rfl
  | some o => cases o <;> rfl
@[simp] theorem s_pk_dat : (SV.dat d).peek = some d := rfl
@[simp] theorem s_pk_lst : (SV.node .lst xs).peek = (peeks xs).map D.lst := rfl
@[simp] theorem s_pk_dK {ks : List Key} : (SV.node (.dK ks) xs).peek = (peeks xs).map (D.dK ks) := rfl
@[simp] theorem s_pk_cell : (SV.cell k).peek = none := rfl
@[simp] theorem s_pks0 : peeks [] = some [] := rfl
@[simp] theorem s_pks1 : peeks (x :: xs) = (x.peek).bind fun d => (peeks xs).map fun ds => d :: ds := rfl
@[simp] theorem s_pks_dat : peeks (ds.map SV.dat) = some ds := by
  induction ds with
  | nil => rfl
  | cons d ds ih => rw [List.map_cons, s_pks1, ih]; rfl
@[simp] theorem s_dats_dat : dats (ds.map SV.dat) = some ds := by
  induction ds with
  | nil => rfl
  | cons d ds ih =>
    rw [List.map_cons]
    show (dats (ds.map SV.dat)).map (fun ds => d :: ds) = _
    rw [ih]; rfl
@[simp] theorem s_dats0 : dats [] = some [] := rfl
@[simp] theorem s_dats1 : dats (.dat d :: xs) = (dats xs).map fun ds => d :: ds := rfl
@[simp] theorem s_its_dl : R.its S (.val (.dat (.lst ds))) = some (false, ds) := rfl
@[simp] theorem s_its_dt : R.its S (.val (.dat (.tup ds))) = some (true, ds) := rfl
@[simp] theorem s_its_n : R.its S (.val (.node .lst xs)) = (peeks xs).map fun ds => (false, ds) := rfl
/-- what a slot's own is walked as -/
def SV.its : SV → Option (Bool × List D)
  | .dat (.lst ds) => some (false, ds)
  | .dat (.tup ds) => some (true, ds)
  | .dat (.kl ds) => some (false, ds)
  | .node .lst xs => (dats xs).map fun ds => (false, ds)
  | _ => none
@[simp] theorem s_its_b : R.its S (.bor i p) = (S.sub i p).bind SV.its := by
  unfold R.its
  rw [s_sv_bor]
  cases S.sub i p with
  | none => rfl
  | some x =>
    cases x with
    | dat d => cases d <;> rfl
    | cell c => rfl
    | node n xs => cases n <;> rfl
@[simp] theorem s_i_dl : (SV.dat (.lst ds)).its = some (false, ds) := rfl
@[simp] theorem s_i_kl : (SV.dat (.kl ds)).its = some (false, ds) := rfl
@[simp] theorem s_its_kl : R.its S (.val (.dat (.kl ds))) = some (false, ds) := rfl
@[simp] theorem s_i_dt : (SV.dat (.tup ds)).its = some (true, ds) := rfl
@[simp] theorem s_i_n : (SV.node .lst xs).its = (dats xs).map fun ds => (false, ds) := rfl
@[simp] theorem s_bl : R.bl S (.val (.dat (.bl b))) = some b := rfl
@[simp] theorem s_tru_val : R.tru S (.val (.dat d)) = match d with | .dK _ _ => none | d => truD d := by cases d <;> rfl
@[simp] theorem s_tru_bor : R.tru S (.bor i p) = (S.sub i p).bind fun x => match x with | .dat (.dK _ _) => none | x => x.peek.bind truD := by
  unfold R.tru; rw [s_sv_bor]
  cases S.sub i p with
  | none => rfl
  | some x => cases x with
    | dat d => cases d <;> rfl
    | _ => rfl
@[simp] theorem s_t_bl {b : Bool} : truD (.bl b) = some b := rfl
@[simp] theorem s_kid_val : R.kid S (.val x) = some (x, S) := rfl
/-- what is told of a slot's part, frozen -/
def frzAt (S : Sto) (i : Nat) (p : List Nat) : Option (D × Sto) := (R.bor i p).esc S
@[simp] theorem s_kid_bor : R.kid ⟨ρ, μ⟩ (.bor i p) = (Sto.sub ⟨ρ, μ⟩ i p).bind fun x => match x with
    | .cell k => some (.cell k, ⟨ρ, μ⟩)
    | .dat d => some (.dat d, ⟨ρ, μ⟩)
    | x => (x.peek).bind fun d => (ρ[i]?).bind fun o => o.map fun x0 => (.dat d, ⟨ρ.set i (some (x0.putp p (.dat d))), μ⟩) := by
  rw [s_sub]
  unfold R.kid R.esc
  dsimp only
  cases e : ρ[i]? with
  | none => simp [Sto.sub, e]
  | some o =>
    cases o with
    | none => simp [Sto.sub, e]
    | some x0 =>
      cases e2 : x0.sub p with
      | none => simp [Sto.sub, e, e2]
      | some x =>
        cases x with
        | dat d => simp [Sto.sub, e, e2]
        | cell c => simp [Sto.sub, e, e2]
        | node n xs => cases e3 : (SV.node n xs).peek <;> simp [Sto.sub, e, e2, e3]
@[simp] theorem s_esc_val : R.esc S (.val x) = x.peek.map fun d => (d, S) := rfl
@[simp] theorem s_esc_bor : R.esc ⟨ρ, μ⟩ (.bor i p) = (Sto.sub ⟨ρ, μ⟩ i p).bind fun x => match x with
    | .dat d => some (d, ⟨ρ, μ⟩)
    | x => (x.peek).bind fun d => (ρ[i]?).bind fun o => o.map fun x0 => (d, ⟨ρ.set i (some (x0.putp p (.dat d))), μ⟩) := by
  rw [s_sub]
  unfold R.esc
  dsimp only
  cases e : ρ[i]? with
  | none => simp
  | some o =>
    cases o with
    | none => simp
    | some x0 =>
      cases e2 : x0.sub p with
      | none => simp [e2]
      | some x =>
        cases x with
        | dat d => simp [e2]
        | cell c => simp [e2, SV.peek]
        | node n xs => cases e3 : (SV.node n xs).peek <;> simp [e2, e3]
@[simp] theorem s_putp0 : x.putp [] y = y := by cases x <;> rfl
@[simp] theorem s_arg_val : R.arg S (.val x) = match x with
    | .cell k => some (.cell k, S)
    | x => x.peek.map fun d => (.dat d, S) := by
  unfold R.arg
  rw [s_sv_val]
  cases x with
  | cell c => rfl
  | dat d => rfl
  | node n xs => rw [s_esc_val]; cases e : (SV.node n xs).peek <;> simp [e]
@[simp] theorem s_arg_bor : R.arg ⟨ρ, μ⟩ (.bor i p) = (Sto.sub ⟨ρ, μ⟩ i p).bind fun x => match x with
    | .cell k => some (.cell k, ⟨ρ, μ⟩)
    | .dat d => some (.dat d, ⟨ρ, μ⟩)
    | x => (x.peek).bind fun d => (ρ[i]?).bind fun o => o.map fun x0 => (.dat d, ⟨ρ.set i (some (x0.putp p (.dat d))), μ⟩) := by
  unfold R.arg
  rw [s_sv_bor]
  cases e : Sto.sub ⟨ρ, μ⟩ i p with
  | none => simp [s_esc_bor, e]
  | some x =>
    cases x with
    | cell c => rfl
    | dat d => simp [s_esc_bor, e]
    | node n xs =>
      simp only [s_esc_bor, e, Option.bind_some]
      cases e3 : (SV.node n xs).peek with
      | none => simp
      | some d =>
        cases e4 : ρ[i]? with
        | none => simp
        | some o => cases o <;> simp
@[simp] theorem s_args0 : argsOf [] S = some ([], S) := rfl
@[simp] theorem s_args1 {rs : List R} {kl : List SV → Sto → Prop} : Gb (argsOf (r :: rs) S) kl = Gb (r.arg S) fun x S1 => Gb (argsOf rs S1) fun xs S2 => kl (x :: xs) S2 := by
  show Gb (match r.arg S with
    | some (x, S1) => match argsOf rs S1 with
      | some (xs, S2) => some (x :: xs, S2)
      | none => none
    | none => none) kl = _
  cases e : r.arg S with
  | none => simp
  | some z => obtain ⟨a, S1⟩ := z; cases e2 : argsOf rs S1 <;> simp [e2]
@[simp] theorem s_kids0 : kids [] S = some ([], S) := rfl
@[simp] theorem s_kids1 {rs : List R} {kl : List SV → Sto → Prop} : Gb (kids (r :: rs) S) kl = Gb (r.kid S) fun x S1 => Gb (kids rs S1) fun xs S2 => kl (x :: xs) S2 := by
  show Gb (match r.kid S with
    | some (x, S1) => match kids rs S1 with
      | some (xs, S2) => some (x :: xs, S2)
      | none => none
    | none => none) kl = _
  cases e : r.kid S with
  | none => simp
  | some z => obtain ⟨a, S1⟩ := z; cases e2 : kids rs S1 <;> simp [e2]
@[simp] theorem s_escs0 : escs [] S = some ([], S) := rfl
@[simp] theorem s_escs1 {rs : List R} {kl : List D → Sto → Prop} : Gb (escs (r :: rs) S) kl = Gb (r.esc S) fun x S1 => Gb (escs rs S1) fun xs S2 => kl (x :: xs) S2 := by
  show Gb (match r.esc S with
    | some (x, S1) => match escs rs S1 with
      | some (xs, S2) => some (x :: xs, S2)
      | none => none
    | none => none) kl = _
  cases e : r.esc S with
  | none => simp
  | some z => obtain ⟨a, S1⟩ := z; cases e2 : escs rs S1 <;> simp [e2]
@[simp] theorem s_pkr0 : peeksR [] S = some [] := rfl
@[simp] theorem s_put : Sto.put ⟨ρ, μ⟩ i x = if i < ρ.length then some ⟨ρ.set i (some x), μ⟩ else none := rfl
@[simp] theorem s_putAll0 : putAll [] [] S = some S := rfl
@[simp] theorem s_putAll1 {is : List Nat} {k : Sto → Prop} : Ob (putAll (i :: is) (x :: xs) S) k = Ob (S.put i x) fun S1 => Ob (putAll is xs S1) k := by
  show Ob (match S.put i x with | some S1 => putAll is xs S1 | none => none) k = _
  cases S.put i x <;> simp
@[simp] theorem s_g2 {g : D → D → Option D} : Gb (g2 g ra rb S) kk = Ob (ra.peek S) fun x => Ob (rb.peek S) fun y => Ob (g x y) fun z => kk (.d z) S := by
  unfold g2
  cases ra.peek S with
  | none => simp
  | some a => cases rb.peek S with
    | none => simp
    | some b => simp
@[simp] theorem s_gD {g : List D → Option D} {rs : List R} : Gb (gD g rs S) kk = Ob (peeksR rs S) fun ds => Ob (g ds) fun d => kk (.d d) S := by unfold gD; cases peeksR rs S <;> simp
@[simp] theorem s_dI {i j : Int} {f : Int → Int → Option D} : dI f (.int i) (.int j) = f i j := rfl
variable {a b c : Int}
@[simp] theorem s_iAdd : iAdd a b = some (.int (a + b)) := rfl
@[simp] theorem s_iSub : iSub a b = some (.int (a - b)) := rfl
@[simp] theorem s_iMul : iMul a b = if (-(2 ^ 64) < a ∧ a < 2 ^ 64) ∨ (-(2 ^ 64) < b ∧ b < 2 ^ 64) then some (.int (a * b)) else none := rfl
@[simp] theorem s_iDiv : iDiv a b = if 0 < b ∧ b < 1073741824 then some (.int (a / b)) else none := rfl
@[simp] theorem s_iMod : iMod a b = if 0 < b then some (.int (a % b)) else none := rfl
@[simp] theorem s_iPow : iPow a b = if 0 ≤ b ∧ b ≤ 1000000 ∧ a.natAbs < 2 ^ 64 then some (.int (a ^ b.toNat)) else none := rfl
@[simp] theorem s_neg : negD (.int a) = some (.int (-a)) := rfl
@[simp] theorem s_lt : dLt (.int a) (.int b) = some (.bl (decide (a < b))) := rfl
@[simp] theorem s_le : dLe (.int a) (.int b) = some (.bl (decide (a ≤ b))) := rfl
@[simp] theorem s_intOf : intOf (.int a) = some a := rfl
@[simp] theorem s_key_i : (D.int a).key = some (.inl a) := rfl
@[simp] theorem s_key_s {z : Str} : (D.str z).key = some (.inr z) := rfl
@[simp] theorem s_dEq {x y : D} {k : D → Prop} : Ob (dEq x y) k = Ob (eqD x y) fun b => k (.bl b) := by unfold dEq; simp
@[simp] theorem s_dNe {x y : D} {k : D → Prop} : Ob (dNe x y) k = Ob (eqD x y) fun b => k (.bl (!b)) := by unfold dNe; simp
@[simp] theorem s_isStr {z : Str} : isStr (.str z) = true := rfl
/-- + by the two values -/
def addK (ra rb : R) (S : Sto) : SV → SV → Option (R × Sto)
  | .dat (.int a), .dat (.int b) => some (.d (.int (a + b)), S)
  | .dat (.str a), .dat (.str b) => if a.length + b.length ≤ 1000000 then some (.d (.str (a ++ b)), S) else none
  | _, _ => (gCat ra rb S).orElse fun _ => gCatT ra rb S
theorem node_peek {n : Nd} {xs : List SV} {d : D} (h : (SV.node n xs).peek = some d) : (∀ a, d ≠ .int a) ∧ ∀ a, d ≠ .str a := by
  cases n with
  | ins => exact nomatch h
  | _ =>
    cases e : peeks xs with
    | none => simp [SV.peek, e] at h
    | some ds => simp [SV.peek, e] at h; subst h; exact ⟨fun _ => by simp, fun _ => by simp⟩
theorem gAdd_eq : gAdd ra rb S = (ra.sv S).bind fun x => (rb.sv S).bind fun y => addK ra rb S x y := by
  unfold gAdd g2 R.peek
  cases ex : ra.sv S with
  | none => simp [gCat, gCatT, R.its, ex]
  | some x =>
    cases ey : rb.sv S with
    | none =>
      have e2 : rb.its S = none := by unfold R.its; rw [ey]
      cases h : x.peek <;> simp [gCat, gCatT, e2, h] <;> (cases ra.its S with
        | none => simp
        | some z => obtain ⟨t, ds⟩ := z; cases t <;> simp)
    | some y =>
      simp only [Option.bind_some]
      cases h1 : x.peek with
      | none =>
        have : ∀ a, x ≠ .dat a := fun a e => by subst e; simp at h1
        cases x with
        | dat a => exact absurd rfl (this a)
        | _ => simp [addK]
      | some dx =>
        cases h2 : y.peek with
        | none =>
          have : ∀ a, y ≠ .dat a := fun a e => by subst e; simp at h2
          cases y with
          | dat a => exact absurd rfl (this a)
          | _ => cases x with
            | dat d => cases d <;> simp [addK]
            | _ => simp [addK]
        | some dy =>
          dsimp only
          cases x with
          | cell c => simp at h1
          | node n xs =>
            obtain ⟨k1, k2⟩ := node_peek h1
            have a1 : dI iAdd dx dy = none := by cases dx <;> first | rfl | exact absurd rfl (k1 _)
            have a2 : sAdd dx dy = none := by cases dx <;> first | rfl | exact absurd rfl (k2 _)
            simp [a1, a2, addK]
          | dat d =>
            have e1 : d = dx := Option.some.inj h1
            subst e1
            cases y with
            | cell c => simp at h2
            | node n ys =>
              obtain ⟨k1, k2⟩ := node_peek h2
              have a1 : dI iAdd d dy = none := by cases d <;> cases dy <;> first | rfl | exact absurd rfl (k1 _)
              have a2 : sAdd d dy = none := by cases d <;> cases dy <;> first | rfl | exact absurd rfl (k2 _)
              cases d <;> simp [a1, a2, addK]
            | dat d' =>
              have e2 : d' = dy := Option.some.inj h2
              subst e2
              cases d <;> cases d' <;> simp [addK, dI, iAdd, sAdd]
              rename_i u v
              by_cases h : u.length + v.length ≤ 1000000
              · simp [h]
              · simp [h, gCat, gCatT, R.its, ex]
@[simp] theorem s_gAdd : Gb (gAdd ra rb S) kk = Ob (ra.sv S) fun x => Ob (rb.sv S) fun y => Gb (addK ra rb S x y) kk := by
  rw [gAdd_eq]; cases ra.sv S <;> cases rb.sv S <;> simp
@[simp] theorem s_addI : addK ra rb S (.dat (.int a)) (.dat (.int b)) = some (.d (.int (a + b)), S) := rfl
@[simp] theorem s_addS {y z : Str} : addK ra rb S (.dat (.str y)) (.dat (.str z)) = if y.length + z.length ≤ 1000000 then some (.d (.str (y ++ z)), S) else none := rfl
def addL (u v : Option (Bool × List D)) (S : Sto) : Option (R × Sto) := match u, v with
  | some (false, ds), some (false, es) => if ds.length + es.length ≤ 1000000 then some (.val (.own ((ds ++ es).map SV.dat)), S) else none
  | some (true, ds), some (true, es) => if ds.length + es.length ≤ 1000000 then some (.d (.tup (ds ++ es)), S) else none
  | _, _ => none
theorem addL_eq : ((gCat ra rb S).orElse fun _ => gCatT ra rb S) = addL (ra.its S) (rb.its S) S := by
  unfold gCat gCatT addL
  cases ra.its S with
  | none => simp
  | some u =>
    obtain ⟨t, ds⟩ := u
    cases rb.its S with
    | none => cases t <;> simp
    | some v =>
      obtain ⟨t', es⟩ := v
      cases t <;> cases t' <;> simp
@[simp] theorem s_addN {n : Nd} : addK ra rb S (.node n xs) y = addL (ra.its S) (rb.its S) S := by rw [← addL_eq]; cases y <;> rfl
@[simp] theorem s_addL : addK ra rb S (.dat (.lst ds)) y = addL (ra.its S) (rb.its S) S := by rw [← addL_eq]; cases y <;> rfl
@[simp] theorem s_addKL : addK ra rb S (.dat (.kl ds)) y = addL (ra.its S) (rb.its S) S := by rw [← addL_eq]; cases y <;> rfl
@[simp] theorem s_addT : addK ra rb S (.dat (.tup ds)) y = addL (ra.its S) (rb.its S) S := by rw [← addL_eq]; cases y <;> rfl
@[simp] theorem s_addLL : addL (some (false, ds)) (some (false, es)) S = if ds.length + es.length ≤ 1000000 then some (.val (.own ((ds ++ es).map SV.dat)), S) else none := rfl
@[simp] theorem s_addTT : addL (some (true, ds)) (some (true, es)) S = if ds.length + es.length ≤ 1000000 then some (.d (.tup (ds ++ es)), S) else none := rfl
/-- x[i] -/
def ixK (ra : R) (S : Sto) (k : D) : SV → Option (R × Sto)
  | .dat (.lst ds) => (intOf k).bind fun i => (atI ds i).map fun d => (.d d, S)
  | .dat (.tup ds) => (intOf k).bind fun i => (atI ds i).map fun d => (.d d, S)
  | .dat (.kt ds) => (intOf k).bind fun i => (atI ds i).map fun d => (.d d, S)
  | .dat (.str x) => (intOf k).bind fun i => if x.length ≤ 1000000 then (atI x.cps.toList i).map fun c => (.d (.str ⟨#[c]⟩), S) else none
  | .node .lst xs => (intOf k).bind fun i => (ixN xs.length i).bind fun j => (xs[j]?).bind fun x => (kidR ra j x).map fun r => (r, S)
  | x => (dgX ra k S x).bind fun o => o.map fun r => (r, S)
theorem gIx_eq : gIx ra rb S = (ra.sv S).bind fun x => (rb.peek S).bind fun k => ixK ra S k x := by
  unfold gIx gIxS gIxD dgetR
  cases ek : rb.peek S with
  | none => cases ra.sv S <;> simp
  | some k =>
    cases ex : ra.sv S with
    | none => cases k <;> simp [intOf]
    | some x =>
      simp only [Option.bind_some]
      cases x with
      | cell c => cases k <;> simp [ixK, intOf] <;> rfl
      | node n xs =>
        cases n with
        | lst => cases k <;> simp [ixK, intOf, dgX, nidx]
        | _ => cases k <;> simp [ixK, intOf] <;> rfl
      | dat d =>
        cases d with
        | lst ds => cases k <;> simp [ixK, intOf, dgX, SV.dget]
        | tup ds => cases k <;> simp [ixK, intOf, dgX, SV.dget]
        | kt ds => cases k <;> simp [ixK, intOf, dgX, SV.dget]
        | str z => cases k <;> simp [ixK, intOf, dgX, SV.dget]
        | _ => cases k <;> simp [ixK, intOf] <;> rfl
@[simp] theorem s_gIx : Gb (gIx ra rb S) kk = Ob (ra.sv S) fun x => Ob (rb.peek S) fun k => Gb (ixK ra S k x) kk := by rw [gIx_eq]; cases ra.sv S <;> cases rb.peek S <;> simp
@[simp] theorem s_ixL {k : D} : ixK ra S k (.dat (.lst ds)) = (intOf k).bind fun i => (atI ds i).map fun d => (.d d, S) := rfl
@[simp] theorem s_ixT {k : D} : ixK ra S k (.dat (.tup ds)) = (intOf k).bind fun i => (atI ds i).map fun d => (.d d, S) := rfl
@[simp] theorem s_ixKT {k : D} : ixK ra S k (.dat (.kt ds)) = (intOf k).bind fun i => (atI ds i).map fun d => (.d d, S) := rfl
@[simp] theorem s_ixS {k : D} {x : Str} : ixK ra S k (.dat (.str x)) = (intOf k).bind fun i => if x.length ≤ 1000000 then (atI x.cps.toList i).map fun c => (.d (.str ⟨#[c]⟩), S) else none := rfl
@[simp] theorem s_ixN {k : D} : ixK ra S k (.node .lst xs) = (intOf k).bind fun i => (ixN xs.length i).bind fun j => (xs[j]?).bind fun x => (kidR ra j x).map fun r => (r, S) := rfl
@[simp] theorem s_ixC {c : Nat} {k : D} : ixK ra S k (.cell c) = (dgX ra k S (.cell c)).bind fun o => o.map fun r => (r, S) := rfl
@[simp] theorem s_ixdK {ks : List Key} {k : D} : ixK ra S k (.node (.dK ks) xs) = (dgX ra k S (.node (.dK ks) xs)).bind fun o => o.map fun r => (r, S) := rfl
@[simp] theorem s_ixdT {ks : List (List Key)} {k : D} : ixK ra S k (.node (.dT ks) xs) = (dgX ra k S (.node (.dT ks) xs)).bind fun o => o.map fun r => (r, S) := rfl
@[simp] theorem s_ixDK {ks : List Key} {k : D} : ixK ra S k (.dat (.dK ks ds)) = (dgX ra k S (.dat (.dK ks ds))).bind fun o => o.map fun r => (r, S) := rfl
@[simp] theorem s_ixDT {ks : List (List Key)} {k : D} : ixK ra S k (.dat (.dT ks ds)) = (dgX ra k S (.dat (.dT ks ds))).bind fun o => o.map fun r => (r, S) := rfl
@[simp] theorem s_dgC {c : Nat} {k : D} : dgX ra k S (.cell c) = (SV.dget S (.cell c) k).bind got2 := rfl
@[simp] theorem s_dgD {k : D} : dgX ra k S (.dat d) = (SV.dget S (.dat d) k).bind got2 := rfl
@[simp] theorem s_dgN {n : Nd} {k : D} : dgX ra k S (.node n xs) = (nidx n k).bind fun oj => match oj with
    | none => some none
    | some j => (xs[j]?).bind fun y => (kidR ra j y).map some := rfl
@[simp] theorem s_got0 : got2 none = some none := rfl
@[simp] theorem s_gotD : got2 (some (.dat d)) = some (some (.d d)) := rfl
@[simp] theorem s_gotC {c : Nat} : got2 (some (.cell c)) = some (some (.val (.cell c))) := rfl
@[simp] theorem s_dgetC {c : Nat} {k : D} : SV.dget ⟨ρ, μ⟩ (.cell c) k = (μ[c]?).bind fun x => match x with
    | .node n xs => nget n xs k
    | _ => none := by
  show (match μ[c]? with | some (.node n xs) => nget n xs k | _ => none) = _
  cases μ[c]? with
  | none => rfl
  | some x => cases x <;> rfl
@[simp] theorem s_storeC {c : Nat} {k : D} (h : ra.sv ⟨ρ, μ⟩ = some (.cell c)) : storeAt ra k x ⟨ρ, μ⟩ = (μ[c]?).bind fun y => match y with
    | .node n xs => (putNd n xs k x).map fun (z : Nd × List SV) => (⟨ρ, μ.set c (.node z.1 z.2)⟩ : Sto)
    | _ => none := by
  unfold storeAt
  rw [h]
  show (match μ[c]? with | some (.node n xs) => (putNd n xs k x).map fun (z : Nd × List SV) => Sto.cellp ⟨ρ, μ⟩ c (.node z.1 z.2) | _ => none) = _
  cases μ[c]? with
  | none => rfl
  | some x => cases x <;> rfl
end
section
variable {α β : Type} {S : Sto} {ds : List D} {z : Str} {i j : Int} {xs : List α} {ka : α → Prop}
@[simp] theorem s_pkr1 {r : R} {rs : List R} {k : List D → Prop} : Ob (peeksR (r :: rs) S) k = Ob (r.peek S) fun d => Ob (peeksR rs S) fun ds => k (d :: ds) := by
  show Ob ((r.peek S).bind fun d => (peeksR rs S).map fun ds => d :: ds) k = _
  cases r.peek S <;> cases peeksR rs S <;> simp
@[simp] theorem s_lenL : lenD [.lst ds] = some (.int ds.length) := rfl
@[simp] theorem s_lenT : lenD [.tup ds] = some (.int ds.length) := rfl
@[simp] theorem s_lenKT : lenD [.kt ds] = some (.int ds.length) := rfl
@[simp] theorem s_lenS : lenD [.str z] = if z.length ≤ 1000000 then some (.int z.length) else none := rfl
@[simp] theorem s_max2 : max2D [.int i, .int j] = some (.int (if j > i then j else i)) := rfl
@[simp] theorem s_min2 : min2D [.int i, .int j] = some (.int (if j < i then j else i)) := rfl
@[simp] theorem s_atI_map {f : α → β} : atI (xs.map f) i = (atI xs i).map f := by
  unfold atI; rw [List.length_map]
  cases ixN xs.length i with
  | none => rfl
  | some j => simp
theorem ixN_in {n : Nat} (h0 : 0 ≤ i) (h1 : i < n) : ixN n i = some i.toNat := by unfold ixN; rw [if_pos h0, if_pos h1]
theorem ob_at (h0 : 0 ≤ i) (h1 : i < xs.length) (h : ∀ x, x ∈ xs → ka x) : Ob (atI xs i) ka := by
  unfold atI
  rw [ixN_in h0 h1, Option.bind_some]
  have : i.toNat < xs.length := by omega
  rw [List.getElem?_eq_getElem this, ob_some]
  exact h _ (List.getElem_mem _)
theorem atI_in (h0 : 0 ≤ i) (h1 : i < xs.length) : atI xs i = xs[i.toNat]? := by
  unfold atI; rw [ixN_in h0 h1]; rfl
end
/-! ### the draw -/
section
variable {x1 x2 x3 x4 y : SV}
abbrev drawKs : List Key := [.inr "cells", .inr "at", .inr "left", .inr "used"]
@[simp] theorem dr_cells : nget (.dK drawKs) [x1, x2, x3, x4] (.str "cells") = some (some x1) := rfl
@[simp] theorem dr_at : nget (.dK drawKs) [x1, x2, x3, x4] (.str "at") = some (some x2) := rfl
@[simp] theorem dr_left : nget (.dK drawKs) [x1, x2, x3, x4] (.str "left") = some (some x3) := rfl
@[simp] theorem dr_used : nget (.dK drawKs) [x1, x2, x3, x4] (.str "used") = some (some x4) := rfl
@[simp] theorem pu_at : putNd (.dK drawKs) [x1, x2, x3, x4] (.str "at") y = some (.dK drawKs, [x1, y, x3, x4]) := rfl
@[simp] theorem pu_left : putNd (.dK drawKs) [x1, x2, x3, x4] (.str "left") y = some (.dK drawKs, [x1, x2, y, x4]) := rfl
@[simp] theorem pu_used : putNd (.dK drawKs) [x1, x2, x3, x4] (.str "used") y = some (.dK drawKs, [x1, x2, x3, y]) := rfl
end
end L3

namespace L3
open PySem PySem.Spec PyProof.Rows L2

/-! ### small data: shown, compared -/
mutual
def pyOf : D → PyData
  | .non => .none
  | .bl b => .bool b
  | .int i => .int i
  | .str x => .str x
  | .lst xs => .list (pysOf xs)
  | .tup xs => .tuple (pysOf xs)
  | .kl xs => .list (pysOf xs)
  | .kt xs => .tuple (pysOf xs)
  | .dK _ _ => .none
  | .dT _ _ => .none
  | .fn _ => .none
def pysOf : List D → List PyData
  | [] => []
  | d :: ds => pyOf d :: pysOf ds
end
mutual
/-- no dicts in it, its numbers and texts small -/
def D.sm : D → Prop
  | .non => True
  | .bl _ => True
  | .int i => i.natAbs < 10 ^ 12
  | .str x => PyData.canLay0 (.str x) = true
  | .lst xs => smL xs
  | .tup xs => smL xs
  | .kl xs => smL xs
  | .kt xs => smL xs
  | .dK _ _ => False
  | .dT _ _ => False
  | .fn _ => False
def smL : List D → Prop
  | [] => True
  | d :: ds => d.sm ∧ smL ds
end
mutual
def D.wt : D → Nat
  | .int _ => 41
  | .str x => x.length
  | .lst xs => wtL xs
  | .tup xs => wtL xs
  | .kl xs => wtL xs
  | .kt xs => wtL xs
  | .non => 0
  | .bl _ => 0
  | .dK _ _ => 0
  | .dT _ _ => 0
  | .fn _ => 0
def wtL : List D → Nat
  | [] => 0
  | d :: ds => d.wt + 1 + wtL ds
end
mutual
def D.dp : D → Nat
  | .lst xs => dpL xs + 1
  | .tup xs => dpL xs + 1
  | .kl xs => dpL xs + 1
  | .kt xs => dpL xs + 1
  | .int _ => 0
  | .str x => 0
  | .non => 0
  | .bl _ => 0
  | .dK _ _ => 0
  | .dT _ _ => 0
  | .fn _ => 0
def dpL : List D → Nat
  | [] => 0
  | d :: ds => max d.dp (dpL ds)
end
structure SmP (d : D) (p : PyData) : Prop where
  py : d.py = some p
  lay : p.canLay0 = true
  sh : p.showable = true
  nd : p.hasDict = false
  shrt : p.intsShort 13 = true
  wt : p.weight ≤ d.wt
  dp : p.depth = d.dp
structure SmPs (ds : List D) (ps : List PyData) : Prop where
  py : pys ds = some ps
  lay : PyData.canLayAll0 ps = true
  sh : PyData.showableAll ps = true
  nd : PyData.hasDictAll ps = false
  shrt : PyData.intsShortAll 13 ps = true
  wt : PyData.weightAll ps ≤ wtL ds
  dp : PyData.depthAll ps = dpL ds
theorem log2_lt {n : Nat} (h : n < 10 ^ 12) : n.log2 < 40 := by
  by_cases h0 : n = 0
  · subst h0; decide
  · exact (Nat.log2_lt h0).mpr (Nat.lt_of_lt_of_le h (by decide))
mutual
theorem sm_py : ∀ {d : D}, d.sm → SmP d (pyOf d)
  | .non, _ => ⟨by simp [D.py, pyOf], by simp [pyOf, PyData.canLay0], by simp [pyOf, PyData.showable], by simp [pyOf, PyData.hasDict], by simp [pyOf, PyData.intsShort], by simp [pyOf, PyData.weight], by simp [pyOf, PyData.depth, D.dp]⟩
  | .bl b, _ => ⟨by simp [D.py, pyOf], by simp [pyOf, PyData.canLay0], by simp [pyOf, PyData.showable], by simp [pyOf, PyData.hasDict], by simp [pyOf, PyData.intsShort], by simp [pyOf, PyData.weight], by simp [pyOf, PyData.depth, D.dp]⟩
  | .int i, h => by
    have h : i.natAbs < 10 ^ 12 := h
    have hl := log2_lt h
    refine ⟨by simp [D.py, pyOf], by simp [pyOf, PyData.canLay0], ?_, by simp [pyOf, PyData.hasDict], ?_, ?_, by simp [pyOf, PyData.depth, D.dp]⟩
    · simp only [pyOf, PyData.showable, decide_eq_true_eq]; omega
    · simp only [pyOf, PyData.intsShort, decide_eq_true_eq]; exact PyData.shown_int_le h
    · simp only [pyOf, PyData.weight, D.wt]; split <;> omega
  | .str x, h => by
    have h : PyData.canLay0 (.str x) = true := h
    refine ⟨by simp [D.py, pyOf], h, by simp [pyOf, PyData.showable], by simp [pyOf, PyData.hasDict], by simp [pyOf, PyData.intsShort], ?_, by simp [pyOf, PyData.depth, D.dp]⟩
    simp only [pyOf, PyData.weight, D.wt]; exact Nat.le_refl _
  | .lst xs, h => by
    have q := smL_pys (show smL xs from h)
    refine ⟨?_, ?_, ?_, ?_, ?_, ?_, ?_⟩
    · unfold D.py; rw [q.py]; simp [pyOf]
    · simp only [pyOf, PyData.canLay0]; exact q.lay
    · simp only [pyOf, PyData.showable]; exact q.sh
    · simp only [pyOf, PyData.hasDict]; exact q.nd
    · simp only [pyOf, PyData.intsShort]; exact q.shrt
    · simp only [pyOf, PyData.weight, D.wt]; exact q.wt
    · simp only [pyOf, PyData.depth, D.dp, q.dp]
  | .tup xs, h => by
    have q := smL_pys (show smL xs from h)
    refine ⟨?_, ?_, ?_, ?_, ?_, ?_, ?_⟩
    · unfold D.py; rw [q.py]; simp [pyOf]
    · simp only [pyOf, PyData.canLay0]; exact q.lay
    · simp only [pyOf, PyData.showable]; exact q.sh
    · simp only [pyOf, PyData.hasDict]; exact q.nd
    · simp only [pyOf, PyData.intsShort]; exact q.shrt
    · simp only [pyOf, PyData.weight, D.wt]; exact q.wt
    · simp only [pyOf, PyData.depth, D.dp, q.dp]
  | .kl xs, h => by
    have q := smL_pys (show smL xs from h)
    refine ⟨?_, ?_, ?_, ?_, ?_, ?_, ?_⟩
    · unfold D.py; rw [q.py]; simp [pyOf]
    · simp only [pyOf, PyData.canLay0]; exact q.lay
    · simp only [pyOf, PyData.showable]; exact q.sh
    · simp only [pyOf, PyData.hasDict]; exact q.nd
    · simp only [pyOf, PyData.intsShort]; exact q.shrt
    · simp only [pyOf, PyData.weight, D.wt]; exact q.wt
    · simp only [pyOf, PyData.depth, D.dp, q.dp]
  | .kt xs, h => by
    have q := smL_pys (show smL xs from h)
    refine ⟨?_, ?_, ?_, ?_, ?_, ?_, ?_⟩
    · unfold D.py; rw [q.py]; simp [pyOf]
    · simp only [pyOf, PyData.canLay0]; exact q.lay
    · simp only [pyOf, PyData.showable]; exact q.sh
    · simp only [pyOf, PyData.hasDict]; exact q.nd
    · simp only [pyOf, PyData.intsShort]; exact q.shrt
    · simp only [pyOf, PyData.weight, D.wt]; exact q.wt
    · simp only [pyOf, PyData.depth, D.dp, q.dp]
  | .dK _ _, h => absurd h (by simp [D.sm])
  | .dT _ _, h => absurd h (by simp [D.sm])
  | .fn _, h => absurd h (by simp [D.sm])
theorem smL_pys : ∀ {ds : List D}, smL ds → SmPs ds (pysOf ds)
  | [], _ => ⟨by simp [pys, pysOf], by simp [pysOf, PyData.canLayAll0], by simp [pysOf, PyData.showableAll], by simp [pysOf, PyData.hasDictAll], by simp [pysOf, PyData.intsShortAll], by simp [pysOf, PyData.weightAll], by simp [pysOf, PyData.depthAll, dpL]⟩
  | d :: ds, h => by
    have h : d.sm ∧ smL ds := h
    have q := sm_py h.1
    have r := smL_pys h.2
    refine ⟨?_, ?_, ?_, ?_, ?_, ?_, ?_⟩
    · unfold pys; rw [q.py, r.py]; simp [pysOf]
    · simp only [pysOf, PyData.canLayAll0, q.lay, r.lay, Bool.and_self]
    · simp only [pysOf, PyData.showableAll, q.sh, r.sh, Bool.and_self]
    · simp only [pysOf, PyData.hasDictAll, q.nd, r.nd, Bool.or_self]
    · simp only [pysOf, PyData.intsShortAll, q.shrt, r.shrt, Bool.and_self]
    · simp only [pysOf, PyData.weightAll, wtL]; have := q.wt; have := r.wt; omega
    · simp only [pysOf, PyData.depthAll, dpL, q.dp, r.dp]
end
theorem smL_iff {ds : List D} : smL ds ↔ ∀ d ∈ ds, d.sm := by
  induction ds with
  | nil => simp [smL]
  | cons d ds ih => simp [smL, ih]
theorem wtL_le {n : Nat} {ds : List D} (h : ∀ d ∈ ds, d.wt ≤ n) : wtL ds ≤ ds.length * (n + 1) := by
  induction ds with
  | nil => simp [wtL]
  | cons d ds ih =>
    have h1 := h d (by simp)
    have h2 := ih fun x hx => h x (by simp [hx])
    simp only [wtL, List.length_cons, Nat.add_mul]
    omega
theorem dpL_le {n : Nat} {ds : List D} (h : ∀ d ∈ ds, d.dp ≤ n) : dpL ds ≤ n := by
  induction ds with
  | nil => simp [dpL]
  | cons d ds ih =>
    have h1 := h d (by simp)
    have h2 := ih fun x hx => h x (by simp [hx])
    simp only [dpL]; omega
theorem SmP.small {d : D} {p : PyData} (q : SmP d p) (hw : d.wt ≤ 2 ^ 20) (hd : d.dp ≤ 64) : p.shown.length ≤ 16000000 := by
  have hd2 : p.depth ≤ 64 := by rw [q.dp]; exact hd
  have h2 := PyData.shown_le 13 (by decide) p (PyData.leavesShort_of_canLay0 13 p q.lay q.shrt)
  have h1 := q.wt
  omega
theorem repr_sm {d : D} (h : d.sm) (hw : d.wt ≤ 2 ^ 20) (hd : d.dp ≤ 64) : reprD [d] = some (.str (pyOf d).shown) := by
  have q := sm_py h
  have hd2 : (pyOf d).depth ≤ 64 := by rw [q.dp]; exact hd
  show (match d.py with
    | some p => if p.showable = true ∧ p.hasDict = false ∧ p.depth ≤ 64 ∧ p.shown.length ≤ 16000000 then some (D.str p.shown) else none
    | none => none) = _
  rw [q.py]
  dsimp only
  rw [if_pos ⟨q.sh, q.nd, hd2, q.small hw hd⟩]
theorem SmP.shaped {d : D} {p : PyData} (q : SmP d p) (hd : d.dp ≤ 64) : SeqAt.shaped p = true := by
  have hd2 : p.depth ≤ 64 := by rw [q.dp]; exact hd
  unfold SeqAt.shaped; simp [q.lay, hd2]
theorem eqP_sm {a b : D} (ha : a.sm) (hb : b.sm) (h1 : a.dp ≤ 64) (h2 : b.dp ≤ 64) : eqP a b = some (PyData.eqv (pyOf a) (pyOf b)) := by
  have p := sm_py ha
  have q := sm_py hb
  unfold eqP
  rw [p.py, q.py]
  dsimp only
  rw [if_pos ⟨p.shaped h1, q.shaped h2⟩]
/-- what == tells of two -/
def eqT (a b : D) : Bool := match a, b with
  | .str x, .str y => decide (x = y)
  | .int i, .int j => decide (i = j)
  | a, b => PyData.eqv (pyOf a) (pyOf b)
theorem eqD_sm {a b : D} (ha : a.sm) (hb : b.sm) (h1 : a.dp ≤ 64) (h2 : b.dp ≤ 64) : eqD a b = some (eqT a b) := by
  unfold eqD eqT
  split
  · rfl
  · rfl
  · rename_i n1 n2
    rw [eqP_sm ha hb h1 h2]
    all_goals (cases a <;> cases b <;> first | rfl | exact absurd rfl (n1 _ _ rfl) | exact absurd rfl (n2 _ _ rfl))
theorem eqT_self {a : D} (ha : a.sm) : eqT a a = true := by
  have h := SeqAt.eqv_refl (pyOf a) (sm_py ha).lay
  cases a <;> first | exact h | simp [eqT]
@[simp] theorem eqD_str {x y : Str} : eqD (.str x) (.str y) = some (decide (x = y)) := rfl
@[simp] theorem eqD_int {x y : Int} : eqD (.int x) (.int y) = some (decide (x = y)) := rfl
end L3

namespace L3
open PySem PySem.Spec PyProof.Rows L2

/-! ### targets, slices, ranges, comprehensions: for simp -/
section
variable {ρ : List (Option SV)} {μ : List SV} {i : Nat} {d : D} {ds : List D} {t : Tg} {ts : List Tg} {vs : List Nat} {v : Nat} {S : Sto} {ra : R} {kk : R → Sto → Prop}
@[simp] theorem tg_nm : tgS (.nm i) d ρ = if i < ρ.length then some (ρ.set i (some (.dat d))) else none := by simp [tgS]
@[simp] theorem tg_tp : tgS (.tp ts) (.tup ds) ρ = tgsS ts ds ρ := by simp [tgS]
@[simp] theorem tgs_nil : tgsS [] [] ρ = some ρ := by simp [tgsS]
@[simp] theorem tgs_cons {k : List (Option SV) → Prop} : Ob (tgsS (t :: ts) (d :: ds) ρ) k = Ob (tgS t d ρ) fun ρ1 => Ob (tgsS ts ds ρ1) k := by
  conv => lhs; rw [tgsS]
  cases tgS t d ρ <;> simp
@[simp] theorem wipe_eq : Sto.wipe ⟨ρ, μ⟩ vs = ⟨wipeL ρ vs, μ⟩ := rfl
@[simp] theorem wipe_nil : wipeL ρ [] = ρ := rfl
@[simp] theorem wipe_cons : wipeL ρ (v :: vs) = (wipeL ρ vs).set v none := rfl
@[simp] theorem s_range1 {j : Int} : range1 [.int j] = if small62 j then some (rangeL 0 j.toNat 1) else none := rfl
@[simp] theorem s_range2 {i j : Int} : range2 [.int i, .int j] = if small62 i ∧ small62 j then some (rangeL i (j - i).toNat 1) else none := rfl
@[simp] theorem s_range3 {i j : Int} : range3 [.int i, .int j, .int (-1)] = if small62 i ∧ small62 j then some (rangeL i (i - j).toNat (-1)) else none := by
  show (if small62 i ∧ small62 j ∧ ((-1 : Int) = -1 ∨ (-1 : Int) = 1 ∨ (-1 : Int) = 2) then some (rangeL i (steps3 i j (-1)) (-1)) else none) = _
  simp [steps3]
theorem small62_of {i : Int} (h1 : -(2 ^ 62) ≤ i) (h2 : i < 2 ^ 62) : small62 i := ⟨h1, h2⟩
theorem cut_tail {α : Type} (x : α) (r : List α) : cutD (x :: r) (some 1) none = r := by
  unfold cutD
  rw [show HT.sIx (x :: r).length 0 (some 1) = min 1 (x :: r).length from HT.sIx_nat _ 0 1, HT.sIx_none, List.length_cons]
  have : min 1 (r.length + 1) = 1 := by omega
  rw [this]; simp
theorem cut_nat {α : Type} (xs : List α) (a b : Nat) (ha : a ≤ xs.length) (hb : b ≤ xs.length) : cutD xs (some (a : Int)) (some (b : Int)) = (xs.drop a).take (b - a) := by
  unfold cutD
  rw [show HT.sIx xs.length 0 (some (a : Int)) = min a xs.length from HT.sIx_nat _ 0 a, show HT.sIx xs.length xs.length (some (b : Int)) = min b xs.length from HT.sIx_nat _ xs.length b]
  rw [Nat.min_eq_left ha, Nat.min_eq_left hb]
/-- the part of a list, a tuple, a text -/
def slK (ra : R) (S : Sto) (lo hi : Option Int) : SV → Option (R × Sto)
  | .dat (.str x) => if x.length ≤ 1000000 then some (.d (.str (L2.cutS x lo hi)), S) else none
  | _ => match ra.its S with
    | some (false, ds) => some (.val (.own ((cutD ds lo hi).map SV.dat)), S)
    | some (true, ds) => some (.d (.tup (cutD ds lo hi)), S)
    | none => none
theorem gSl_eq {lo hi : Option Int} : gSl ra lo hi S = (ra.sv S).bind fun x => slK ra S lo hi x := by
  unfold gSl
  cases ex : ra.sv S with
  | none => simp [R.its, ex]
  | some x =>
    simp only [Option.bind_some]
    cases x with
    | cell c => simp [R.its, ex, slK]
    | node n xs => cases n <;> simp [ex, slK] <;> (split <;> simp_all)
    | dat d => cases d <;> simp [R.its, ex, slK]
@[simp] theorem s_gSl {lo hi : Option Int} : Gb (gSl ra lo hi S) kk = Ob (ra.sv S) fun x => Gb (slK ra S lo hi x) kk := by rw [gSl_eq]; simp
@[simp] theorem s_slT {lo hi : Option Int} : slK ra S lo hi (.dat (.tup ds)) = match ra.its S with
    | some (false, ds) => some (.val (.own ((cutD ds lo hi).map SV.dat)), S)
    | some (true, ds) => some (.d (.tup (cutD ds lo hi)), S)
    | none => none := rfl
@[simp] theorem s_slL {lo hi : Option Int} : slK ra S lo hi (.dat (.lst ds)) = match ra.its S with
    | some (false, ds) => some (.val (.own ((cutD ds lo hi).map SV.dat)), S)
    | some (true, ds) => some (.d (.tup (cutD ds lo hi)), S)
    | none => none := rfl
end
section
variable {tg : Tg} {ft : FT} {fe : FE} {vs : List Nat} {ds : List D} {S : Sto} {Q : R → Sto → Prop}
/-- a comprehension that keeps the state: each element g of the datum, of those that p lets by -/
theorem ct_filter (p : D → Bool) (g : D → SV) (hl : ds.length ≤ 1000000) (h : ∀ d ∈ ds, Ob (tgS tg d (S.wipe vs).ρ) fun ρ => Wb ft ⟨ρ, S.μ⟩ (fun b S1 => b = p d ∧ br b (Wb fe S1 (fun y S2 => Gb (y.kid S2) fun x S3 => x = g d ∧ S3.wipe vs = S.wipe vs) fun _ _ => False) (S1.wipe vs = S.wipe vs)) fun _ _ => False)
    (hq : Q (.val (.own ((ds.filter p).map g))) (S.wipe vs)) : fCompTail tg ft fe vs ds S Q := by
  unfold fCompTail
  refine compF_ind (fun i acc S1 => acc = ((ds.take i).filter p).map g ∧ S1 = S.wipe vs) ⟨by simp, rfl⟩ (fun i d acc S1 hd hI => ?_) (fun acc S1 hI => ?_)
  · obtain ⟨rfl, rfl⟩ := hI
    have hi := (List.getElem?_eq_some_iff.mp hd).1
    have hm : d ∈ ds := List.mem_of_getElem? hd
    have et : ds.take (i + 1) = ds.take i ++ [d] := by rw [List.take_add_one, hd]; rfl
    obtain ⟨ρ, e1, r, e2, q⟩ := h d hm
    refine ⟨ρ, e1, r, e2, ?_⟩
    cases r with
    | exc e S1 => exact q
    | ok b S1 =>
      obtain ⟨eb, q⟩ := q
      cases b with
      | true =>
        simp only [br_t] at q ⊢
        refine wb_mono q (fun y S2 hy => ?_) fun _ _ h => h
        obtain ⟨x, S3, e3, rfl, e4⟩ := hy
        refine ⟨_, S3, e3, ?_, ?_, e4⟩
        · rw [List.length_map]
          have h1 := List.length_filter_le p (ds.take i)
          rw [List.length_take] at h1
          omega
        · rw [et, List.filter_append, List.map_append]; simp [← eb]
      | false =>
        simp only [br_f] at q ⊢
        exact ⟨by rw [et, List.filter_append, List.map_append]; simp [← eb], q⟩
  · obtain ⟨rfl, rfl⟩ := hI
    rw [List.take_of_length_le (Nat.le_refl _)]; exact hq
theorem ct_map (g : D → SV) (hl : ds.length ≤ 1000000) (h : ∀ d ∈ ds, Ob (tgS tg d (S.wipe vs).ρ) fun ρ => Wb fe ⟨ρ, S.μ⟩ (fun y S2 => Gb (y.kid S2) fun x S3 => x = g d ∧ S3.wipe vs = S.wipe vs) fun _ _ => False)
    (hq : Q (.val (.own (ds.map g))) (S.wipe vs)) : fCompTail tg fYes fe vs ds S Q := by
  refine ct_filter (fun _ => true) g hl (fun d hd => ?_) (by rw [show ds.filter (fun _ => true) = ds from List.filter_eq_self.mpr (fun _ _ => rfl)]; exact hq)
  obtain ⟨ρ, e, q⟩ := h d hd
  exact ⟨ρ, e, by simpa using q⟩
end
section
variable {α : Type} {x y z u : α} {r : List α}
@[simp] theorem at0 : atI (x :: r) 0 = some x := by rw [atI_in (by omega) (by simp only [List.length_cons]; omega)]; rfl
@[simp] theorem at1 : atI (x :: y :: r) 1 = some y := by rw [atI_in (by omega) (by simp only [List.length_cons]; omega)]; rfl
@[simp] theorem at2 : atI (x :: y :: z :: r) 2 = some z := by rw [atI_in (by omega) (by simp only [List.length_cons]; omega)]; rfl
@[simp] theorem at3 : atI (x :: y :: z :: u :: r) 3 = some u := by rw [atI_in (by omega) (by simp only [List.length_cons]; omega)]; rfl
end
/-- += of numbers, of texts -/
def add2D : D → D → Option D
  | .int a, .int b => some (.int (a + b))
  | .str x, .str y => if x.length + y.length ≤ 1000000 then some (.str (x ++ y)) else none
  | _, _ => none
@[simp] theorem s_gAdd2 {ra rb : R} {S : Sto} {kk : R → Sto → Prop} : Gb (gAdd2 ra rb S) kk = Ob (ra.peek S) fun x => Ob (rb.peek S) fun y => Ob (add2D x y) fun z => kk (.d z) S := by
  unfold gAdd2 g2
  cases ra.peek S with
  | none => simp
  | some x =>
    cases rb.peek S with
    | none => simp
    | some y =>
      cases x <;> cases y <;> simp [add2D, dI, iAdd, sAdd]
@[simp] theorem s_add2I {a b : Int} : add2D (.int a) (.int b) = some (.int (a + b)) := rfl
@[simp] theorem s_add2S {x y : Str} : add2D (.str x) (.str y) = if x.length + y.length ≤ 1000000 then some (.str (x ++ y)) else none := rfl
@[simp] theorem peeks_mapf {α : Type} {f : α → D} {l : List α} : peeks (l.map fun t => SV.dat (f t)) = some (l.map f) := by
  have := s_pks_dat (ds := l.map f); rwa [List.map_map] at this
@[simp] theorem dats_mapf {α : Type} {f : α → D} {l : List α} : dats (l.map fun t => SV.dat (f t)) = some (l.map f) := by
  have := s_dats_dat (ds := l.map f); rwa [List.map_map] at this
@[simp] theorem peeks_comp {α : Type} {f : α → D} {l : List α} : peeks (l.map (SV.dat ∘ f)) = some (l.map f) := peeks_mapf
@[simp] theorem dats_comp {α : Type} {f : α → D} {l : List α} : dats (l.map (SV.dat ∘ f)) = some (l.map f) := dats_mapf
@[simp] theorem peeks_app : ∀ {a b : List SV}, peeks (a ++ b) = (peeks a).bind fun x => (peeks b).map fun y => x ++ y
  | [], b => by cases e : peeks b <;> simp [e]
  | x :: a, b => by
    rw [List.cons_append, s_pks1, s_pks1, peeks_app]
    cases x.peek <;> cases peeks a <;> cases peeks b <;> simp
@[simp] theorem dats_app : ∀ {a b : List SV}, dats (a ++ b) = (dats a).bind fun x => (dats b).map fun y => x ++ y
  | [], b => by cases e : dats b <;> simp [e]
  | .dat d :: a, b => by
    rw [List.cons_append, s_dats1, s_dats1, dats_app]
    cases dats a <;> cases dats b <;> simp
  | .node _ _ :: a, b => rfl
  | .cell _ :: a, b => rfl
@[simp] theorem strsD_map : ∀ {ys : List Str}, strsD (ys.map D.str) = some ys
  | [] => rfl
  | y :: ys => by
    show (strsD (ys.map D.str)).map (fun xs => y :: xs) = _
    rw [strsD_map]; rfl
@[simp] theorem joinL {x : Str} {ds : List D} : dJoin (.str x) (.lst ds) = (strsD ds).bind fun ys => if (ys.map (·.length)).sum + ys.length * x.length ≤ 16777216 then some (.str (Txt.join x ys)) else none := rfl
@[simp] theorem splitS {x y : Str} {S : Sto} : gSplit (.val (.dat (.str x))) (.val (.dat (.str y))) S = if (y.length == 0) = false ∧ x.length ≤ 1000000 then some (.val (.own ((Txt.split x y).map fun z => .dat (.str z))), S) else none := rfl
@[simp] theorem sum_ints {xs : List Int} : sumD [.lst (xs.map D.int)] = some (.int xs.sum) := by
  have : intsD (xs.map D.int) = some xs := by
    induction xs with
    | nil => rfl
    | cons x xs ih => show (intsD (xs.map D.int)).map (fun is => x :: is) = _; rw [ih]; rfl
  show (intsD (xs.map D.int)).map _ = _
  rw [this]; rfl
@[simp] theorem sum_mapf {α : Type} {f : α → Int} {l : List α} : sumD [.lst (l.map fun t => .int (f t))] = some (.int (l.map f).sum) := by
  have := sum_ints (xs := l.map f); rwa [List.map_map] at this
section
variable {ρ : List (Option SV)} {μ : List SV} {i j n : Nat} {d k : D} {x : SV} {xs : List SV} {ra : R} {c : Nat}
@[simp] theorem kidR_dat : kidR ra j (.dat d) = some (.d d) := rfl
@[simp] theorem kidR_cell : kidR ra j (.cell c) = some (.val (.cell c)) := rfl
@[simp] theorem kidR_bor {p : List Nat} {n : Nd} : kidR (.bor i p) j (.node n xs) = some (.bor i (p ++ [j])) := rfl
@[simp] theorem ixN0 : ixN (n + 1) 0 = some 0 := by rw [ixN_in (by omega) (by omega)]; rfl
@[simp] theorem ixN1 : ixN (n + 2) 1 = some 1 := by rw [ixN_in (by omega) (by omega)]; rfl
@[simp] theorem ixN2 : ixN (n + 3) 2 = some 2 := by rw [ixN_in (by omega) (by omega)]; rfl
@[simp] theorem pushAt0 : pushAt (.bor i []) x ⟨ρ, μ⟩ = (ρ[i]?).bind fun o => o.bind fun y => match y with
    | .node .lst xs => if xs.length < 1000000 then some (⟨ρ.set i (some (.own (xs ++ [x]))), μ⟩ : Sto) else none
    | _ => none := by
  unfold pushAt
  dsimp only
  rw [s_sub]
  cases e : ρ[i]? with
  | none => rfl
  | some o =>
    cases o with
    | none => rfl
    | some y =>
      simp only [Option.bind_some, s_sub0]
      cases y with
      | node n xs => cases n <;> simp [Sto.putp, e]
      | _ => rfl
@[simp] theorem storeAt0 : storeAt (.bor i []) k x ⟨ρ, μ⟩ = (ρ[i]?).bind fun o => o.bind fun y => match y with
    | .cell c => (μ[c]?).bind fun y => match y with
      | .node n xs => (putNd n xs k x).map fun (z : Nd × List SV) => (⟨ρ, μ.set c (.node z.1 z.2)⟩ : Sto)
      | _ => none
    | .node n xs => (putNd n xs k x).map fun (z : Nd × List SV) => (⟨ρ.set i (some (.node z.1 z.2)), μ⟩ : Sto)
    | _ => none := by
  unfold storeAt
  rw [s_sv_bor, s_sub]
  cases e : ρ[i]? with
  | none => rfl
  | some o =>
    cases o with
    | none => rfl
    | some y =>
      simp only [Option.bind_some, s_sub0]
      cases y with
      | node n xs =>
        dsimp only
        cases putNd n xs k x <;> simp [Sto.putp, e]
      | cell c =>
        dsimp only
        cases e2 : μ[c]? with
        | none => rfl
        | some y => cases y <;> rfl
      | dat d => rfl
@[simp] theorem putNd_lst {a : Int} : putNd .lst xs (.int a) x = (ixN xs.length a).map fun j => (.lst, xs.set j x) := rfl
end
@[simp] theorem s_tupOf {r : R} {S : Sto} {kk : R → Sto → Prop} : Gb (gTupOf [r] S) kk = Gb (r.its S) fun _ ds => kk (.d (.tup ds)) S := by
  show Gb (match r.its S with | some (_, ds) => some (.d (.tup ds), S) | none => none) kk = _
  cases e : r.its S with
  | none => simp
  | some z => obtain ⟨t, ds⟩ := z; simp
@[simp] theorem s_lstOf {r : R} {S : Sto} {kk : R → Sto → Prop} : Gb (gLstOf [r] S) kk = Gb (r.its S) fun _ ds => kk (.val (.own (ds.map SV.dat))) S := by
  show Gb (match r.its S with | some (_, ds) => some (.val (.own (ds.map SV.dat)), S) | none => none) kk = _
  cases e : r.its S with
  | none => simp
  | some z => obtain ⟨t, ds⟩ := z; simp
/-- a comprehension that changes the cells -/
theorem ct_ind {tg : Tg} {fe : FE} {vs : List Nat} {ds : List D} {ρ : List (Option SV)} {μ : List SV} {Q : R → Sto → Prop} (I : Nat → List SV → List SV → Prop) (hl : ds.length ≤ 1000000) (h0 : I 0 [] μ)
    (step : ∀ i d acc μ, ds[i]? = some d → I i acc μ → Ob (tgS tg d (wipeL ρ vs)) fun ρ1 => Wb fe ⟨ρ1, μ⟩ (fun y S2 => Gb (y.kid S2) fun x S3 => I (i + 1) (acc ++ [x]) S3.μ ∧ wipeL S3.ρ vs = wipeL ρ vs) fun _ _ => False)
    (hend : ∀ acc μ', I ds.length acc μ' → Q (.val (.own acc)) ⟨wipeL ρ vs, μ'⟩) : fCompTail tg fYes fe vs ds ⟨ρ, μ⟩ Q := by
  unfold fCompTail
  refine compF_ind (fun i acc S => I i acc S.μ ∧ S.ρ = wipeL ρ vs ∧ acc.length ≤ i) ⟨h0, rfl, by simp⟩ (fun i d acc S hd hI => ?_) (fun acc S hI => ?_)
  · obtain ⟨ρ0, μ0⟩ := S
    obtain ⟨h1, e, h3⟩ := hI
    have e : ρ0 = wipeL ρ vs := e
    subst e
    obtain ⟨ρ1, e1, q⟩ := step i d acc μ0 hd h1
    have hi := (List.getElem?_eq_some_iff.mp hd).1
    refine ⟨ρ1, e1, ?_⟩
    simp only [wb_yes, br_t]
    refine wb_mono q (fun y S2 hy => ?_) fun _ _ h => h
    obtain ⟨x, S3, e3, h4, h5⟩ := hy
    exact ⟨x, S3, e3, by omega, h4, h5, by rw [List.length_append]; simp; omega⟩
  · obtain ⟨ρ0, μ0⟩ := S
    obtain ⟨h1, e, _⟩ := hI
    have e : ρ0 = wipeL ρ vs := e
    subst e
    exact hend acc μ0 h1
theorem ob_ixN {n : Nat} {i : Int} {k : Nat → Prop} (h0 : 0 ≤ i) (h1 : i < n) (h : ∀ j, j < n → k j) : Ob (ixN n i) k := by
  rw [ixN_in h0 h1, ob_some]; exact h _ (by omega)
theorem ixN_neg1 {n : Nat} : ixN (n + 1) (-1) = some n := by
  unfold ixN; rw [if_neg (by omega), if_pos (by omega)]; congr 1; omega
theorem ixN_neg2 {n : Nat} : ixN (n + 2) (-2) = some n := by
  unfold ixN; rw [if_neg (by omega), if_pos (by omega)]; congr 1; omega
/-- what «in» tells of small data -/
def inT (x : D) (ds : List D) : Bool := (pysOf ds).any fun z => PyData.eqv z (pyOf x)
theorem inD_sm {neg : Bool} {x : D} {ds : List D} (hx : x.sm) (hs : smL ds) (h1 : x.dp ≤ 64) (h2 : dpL ds ≤ 63) : inD neg x (.lst ds) = some (.bl (xorB neg (inT x ds))) := by
  have p := sm_py hx
  have q := smL_pys hs
  show (match x.py, pys ds with
    | some p, some ps => if SeqAt.shaped p = true ∧ SeqAt.shaped (.list ps) = true then some (D.bl (xorB neg (ps.any fun z => PyData.eqv z p))) else none
    | _, _ => none) = _
  rw [p.py, q.py]
  dsimp only
  have sh : SeqAt.shaped (.list (pysOf ds)) = true := by
    unfold SeqAt.shaped
    have e1 : (PyData.list (pysOf ds)).canLay0 = true := by simp only [PyData.canLay0]; exact q.lay
    have e2 : (PyData.list (pysOf ds)).depth ≤ 64 := by simp only [PyData.depth, q.dp]; omega
    simp [e1, e2]
  rw [if_pos ⟨p.shaped h1, sh⟩]; rfl
theorem strs_sm {ys : List Str} (h : ∀ y ∈ ys, PyData.canLay0 (.str y) = true) : smL (ys.map D.str) := smL_iff.mpr fun d hd => by
  obtain ⟨y, hy, rfl⟩ := List.mem_map.mp hd
  exact h y hy
theorem strs_dp {ys : List Str} : dpL (ys.map D.str) ≤ 0 := dpL_le fun d hd => by
  obtain ⟨y, hy, rfl⟩ := List.mem_map.mp hd
  simp [D.dp]
theorem eqv_str {a b : Str} : PyData.eqv (.str a) (.str b) = (a == b) := by simp only [PyData.eqv]
theorem inT_str {x : Str} {ys : List Str} : inT (.str x) (ys.map D.str) = decide (x ∈ ys) := by
  show ((pysOf (ys.map D.str)).any fun z => PyData.eqv z (.str x)) = _
  induction ys with
  | nil => simp [pysOf]
  | cons y ys ih =>
    simp only [List.map_cons, pysOf, List.any_cons, ih, pyOf, eqv_str]
    by_cases e : y = x
    · subst e; simp
    · have e2 : ¬ x = y := fun z => e z.symm
      have e3 : (y == x) = false := by simpa using e
      simp [e2, e3]
theorem mem_range {lo c : Int} {n : Nat} {d : D} (h : d ∈ rangeL lo n c) : ∃ i : Nat, i < n ∧ d = .int (lo + i * c) := by
  unfold rangeL at h
  obtain ⟨i, hi, rfl⟩ := List.mem_map.mp h
  exact ⟨i, List.mem_range.mp hi, rfl⟩
@[simp] theorem range_len {lo c : Int} {n : Nat} : (rangeL lo n c).length = n := by unfold rangeL; simp
end L3


namespace FL
open PySem PySem.Spec PyProof.Rows L2 L3
/-! steps_of: 0=leg 1=first 2=last 3=number -/
def fb_steps_of : FS := (fSeq (fAsg (.tp [(.nm 1), (.nm 2)]) (fSl (fVar 0) (some (fC (.int 1))) none))
    (fSeq (fIf (fTest (fBin gLt (fVar 1) (fVar 2))) (fRet (fComp (.nm 3) (fRange range2 (fCons (fVar 1) (fCons (fVar 2) fNil))) fYes (fTup (fCons (fVar 3) (fCons (fC (.bl true)) fNil))) [3])) fNext)
    (fRet (fComp (.nm 3) (fRange range3 (fCons (fBin (g2 (dI iSub)) (fVar 1) (fC (.int 1))) (fCons (fBin (g2 (dI iSub)) (fVar 2) (fC (.int 1))) (fCons (fNeg (fC (.int 1))) fNil)))) fYes (fTup (fCons (fVar 3) (fCons (fC (.bl false)) fNil))) [3]))))
def F_steps_of : FnS := runF 1 4 fb_steps_of
/-! measure: 0=section 1=leg 2=length 3=climb 4=fall 5=number 6=forth 7=more 8=up 9=down -/
def fb_measure : FS := (fSeq (fIf (fTest (fBin gGe (fB (gD max2D) (fCons (fBin gIx (fVar 1) (fC (.int 1))) (fCons (fBin gIx (fVar 1) (fC (.int 2))) fNil))) (fB (gD lenD) (fCons (fBin gIx (fVar 0) (fC (.int 1))) fNil)))) (fRet (fC .non)) fNext)
    (fSeq (fAsg (.tp [(.nm 2), (.nm 3), (.nm 4)]) (fTup (fCons (fC (.int 0)) (fCons (fC (.int 0)) (fCons (fC (.int 0)) fNil)))))
    (fSeq (fFor (.tp [(.nm 5), (.nm 6)]) (fItems (fGo F_steps_of [] (fCons (fVar 1) fNil))) (fSeq (fAsg (.tp [(.nm 7), (.nm 8), (.nm 9)]) (fBin gIx (fBin gIx (fVar 0) (fC (.int 2))) (fVar 5)))
    (fSeq (fAug 2 gAdd2 (fVar 7))
    (fSeq (fAug 3 gAdd2 (fIfE (fTru (fVar 6)) (fVar 8) (fVar 9)))
    (fAug 4 gAdd2 (fIfE (fTru (fVar 6)) (fVar 9) (fVar 8)))))))
    (fRet (fTup (fCons (fVar 2) (fCons (fVar 3) (fCons (fVar 4) fNil))))))))
def F_measure : FnS := runF 2 10 fb_measure
/-! _law_begin: 0=~script -/
def fb__law_begin : FS := (fRet (fDisp [((fC (.str "cells")), (fFrz (fBin gAdd (fVar 0) (fLst (fCons (fC (.int 0)) fNil))))), ((fC (.str "at")), (fC (.int 0))), ((fC (.str "left")), (fC (.int 0))), ((fC (.str "used")), (fC (.int 0)))]))
def F__law_begin : FnS := runF 1 1 fb__law_begin
/-! _law_mixed: 0=~cell 1=~k 2=~number -/
def fb__law_mixed : FS := (fSeq (fSet 2 (fBin (g2 (dI iMod)) (fBin gAdd (fBin gAdd (fBin gAdd (fBin (g2 (dI iMod)) (fVar 0) (fC (.int 1000000007))) (fBin (g2 (dI iMul)) (fBin (g2 (dI iMul)) (fC (.int 7919)) (fVar 1)) (fVar 1))) (fBin (g2 (dI iMul)) (fC (.int 31)) (fVar 1))) (fC (.int 7))) (fC (.int 2147483647))))
    (fSeq (fSet 2 (fBin (g2 (dI iMod)) (fBin (g2 (dI iMul)) (fBin (g2 (dI iMod)) (fBin (g2 (dI iMul)) (fVar 2) (fVar 2)) (fC (.int 2147483647))) (fVar 2)) (fC (.int 2147483629))))
    (fRet (fBin (g2 (dI iDiv)) (fBin (g2 (dI iMod)) (fBin (g2 (dI iMul)) (fVar 2) (fBin gAdd (fC (.int 69621)) (fBin (g2 (dI iMul)) (fC (.int 2)) (fBin (g2 (dI iMod)) (fVar 1) (fC (.int 1000)))))) (fC (.int 2147483647))) (fC (.int 7))))))
def F__law_mixed : FnS := runF 2 3 fb__law_mixed
/-! _law_next: 0=~draw 1=~many 2=~found 3=~cells 4=~cell -/
def fb__law_next : FS := (fSeq (fIf (fTest (fBin gGt (fBin gIx (fVar 0) (fC (.str "left"))) (fC (.int 0)))) (fSeq (fSet 2 (fBin (g2 (dI iMod)) (fBin gIx (fVar 0) (fC (.str "left"))) (fVar 1)))
    (fSeq (fStore (fVar 0) (fC (.str "left")) (fBin (g2 (dI iDiv)) (fBin gIx (fVar 0) (fC (.str "left"))) (fVar 1)))
    (fRet (fVar 2)))) fNext)
    (fSeq (fSet 3 (fBin gIx (fVar 0) (fC (.str "cells"))))
    (fSeq (fSet 4 (fBin gIx (fVar 3) (fBin (g2 (dI iMod)) (fBin gIx (fVar 0) (fC (.str "at"))) (fB (gD lenD) (fCons (fVar 3) fNil)))))
    (fSeq (fStore (fVar 0) (fC (.str "at")) (fBin gAdd (fBin gIx (fVar 0) (fC (.str "at"))) (fC (.int 1))))
    (fSeq (fIf (fAnd (fTest (fBin gGe (fVar 4) (fBin (g2 (dI iPow)) (fC (.int 10)) (fC (.int 18))))) (fTest (fBin gLe (fBin gIx (fVar 0) (fC (.str "at"))) (fB (gD lenD) (fCons (fVar 3) fNil))))) (fSeq (fStore (fVar 0) (fC (.str "left")) (fBin (g2 (dI iDiv)) (fVar 4) (fVar 1)))
    (fRet (fBin (g2 (dI iMod)) (fVar 4) (fVar 1)))) fNext)
    (fSeq (fStore (fVar 0) (fC (.str "used")) (fBin gAdd (fBin gIx (fVar 0) (fC (.str "used"))) (fC (.int 1))))
    (fRet (fBin (g2 (dI iMod)) (fGo F__law_mixed [] (fCons (fGo F__law_mixed [] (fCons (fVar 4) (fCons (fBin gIx (fVar 0) (fC (.str "at"))) fNil))) (fCons (fBin gIx (fVar 0) (fC (.str "used"))) fNil))) (fVar 1)))))))))
def F__law_next : FnS := runF 2 5 fb__law_next
/-! _law_words: 0=~draw 1=~many 2=~letters 3=~found 4=~size 5=~word 6=~words_here 7=~rest 8=~k 9=~one -/
def fb__law_words : FS := (fSeq (fSet 2 (fC (.str "abcdefghijklmnopqrstuvwxyz")))
    (fSeq (fSet 3 (fLst fNil))
    (fSeq (whileF 1000 (fTest (fBin gLt (fB (gD lenD) (fCons (fVar 3) fNil)) (fVar 1))) (fSeq (fSet 4 (fBin gIx (fLst (fCons (fBin gAdd (fC (.int 1)) (fGo F__law_next [] (fCons (fVar 0) (fCons (fC (.int 2)) fNil)))) (fCons (fBin gAdd (fC (.int 1)) (fGo F__law_next [] (fCons (fVar 0) (fCons (fC (.int 8)) fNil)))) (fCons (fC (.int 8)) fNil)))) (fGo F__law_next [] (fCons (fVar 0) (fCons (fC (.int 3)) fNil)))))
    (fSeq (fSet 5 (fM1 (g2 dJoin) (fC (.str "")) (fComp (.nm 8) (fRange range1 (fCons (fVar 4) fNil)) fYes (fBin gIx (fVar 2) (fGo F__law_next [] (fCons (fVar 0) (fCons (fC (.int 26)) fNil)))) [8])))
    (fSeq (fIf (fTest (fBin (g2 dEq) (fGo F__law_next [] (fCons (fVar 0) (fCons (fC (.int 9)) fNil))) (fC (.int 0)))) (fSeq (fSet 6 (fM1 gSplit (fC (.str "ride book closed walk section halts beside badge length climb")) (fC (.str " "))))
    (fSet 5 (fBin gIx (fVar 6) (fGo F__law_next [] (fCons (fVar 0) (fCons (fC (.int 10)) fNil)))))) fNext)
    (fSeq (fIf (fTest (fBin (g2 (inD false)) (fVar 5) (fVar 3))) (fSeq (fSet 7 (fComp (.nm 8) (fRange range1 (fCons (fC (.int 676)) fNil)) fYes (fBin gAdd (fBin gIx (fVar 2) (fBin (g2 (dI iDiv)) (fVar 8) (fC (.int 26)))) (fBin gIx (fVar 2) (fBin (g2 (dI iMod)) (fVar 8) (fC (.int 26))))) [8]))
    (fSet 5 (fBin gIx (fComp (.nm 9) (fItems (fVar 7)) (fTest (fBin (g2 (inD true)) (fVar 9) (fVar 3))) (fVar 9) [9]) (fGo F__law_next [] (fCons (fVar 0) (fCons (fC (.int 600)) fNil)))))) fNext)
    (fAppend (fVar 3) (fVar 5)))))))
    (fRet (fVar 3)))))
def F__law_words : FnS := runF 2 10 fb__law_words
/-! _law_stretch: 0=~draw 1=~way -/
def fb__law_stretch : FS := (fSeq (fSet 1 (fGo F__law_next [] (fCons (fVar 0) (fCons (fC (.int 4)) fNil))))
    (fSeq (fIf (fTest (fBin (g2 dEq) (fVar 1) (fC (.int 0)))) (fRet (fTup (fCons (fBin gAdd (fC (.int 1)) (fGo F__law_next [] (fCons (fVar 0) (fCons (fC (.int 999)) fNil)))) (fCons (fGo F__law_next [] (fCons (fVar 0) (fCons (fC (.int 1000)) fNil))) (fCons (fGo F__law_next [] (fCons (fVar 0) (fCons (fC (.int 1000)) fNil))) fNil))))) fNext)
    (fSeq (fIf (fTest (fBin (g2 dEq) (fVar 1) (fC (.int 1)))) (fRet (fTup (fCons (fC (.int 1)) (fCons (fC (.int 0)) (fCons (fGo F__law_next [] (fCons (fVar 0) (fCons (fC (.int 2)) fNil))) fNil))))) fNext)
    (fSeq (fIf (fTest (fBin (g2 dEq) (fVar 1) (fC (.int 2)))) (fRet (fTup (fCons (fC (.int 999)) (fCons (fC (.int 999)) (fCons (fBin (g2 (dI iMul)) (fC (.int 999)) (fGo F__law_next [] (fCons (fVar 0) (fCons (fC (.int 2)) fNil)))) fNil))))) fNext)
    (fRet (fTup (fCons (fBin gAdd (fC (.int 1)) (fGo F__law_next [] (fCons (fVar 0) (fCons (fC (.int 9)) fNil)))) (fCons (fGo F__law_next [] (fCons (fVar 0) (fCons (fC (.int 9)) fNil))) (fCons (fGo F__law_next [] (fCons (fVar 0) (fCons (fC (.int 9)) fNil))) fNil)))))))))
def F__law_stretch : FnS := runF 1 2 fb__law_stretch
/-! _law_section: 0=~draw 1=~name 2=~pool 3=~many 4=~marks 5=~ways 6=~rest 7=~one 8=~k -/
def fb__law_section : FS := (fSeq (fSet 3 (fBin gIx (fLst (fCons (fBin gAdd (fC (.int 2)) (fGo F__law_next [] (fCons (fVar 0) (fCons (fC (.int 7)) fNil)))) (fCons (fBin gAdd (fC (.int 2)) (fGo F__law_next [] (fCons (fVar 0) (fCons (fC (.int 3)) fNil)))) (fCons (fC (.int 8)) fNil)))) (fGo F__law_next [] (fCons (fVar 0) (fCons (fC (.int 3)) fNil)))))
    (fSeq (fPar [4, 5, 6] (fCons (fLst (fCons (fBin gIx (fVar 2) (fGo F__law_next [] (fCons (fVar 0) (fCons (fB (gD lenD) (fCons (fVar 2) fNil)) fNil)))) fNil)) (fCons (fLst fNil) (fCons (fVar 2) fNil))))
    (fSeq (whileF 1000 (fAnd (fTest (fBin gLt (fB (gD lenD) (fCons (fVar 4) fNil)) (fVar 3))) (fTest (fBin (g2 dNe) (fVar 6) (fLst fNil)))) (fSeq (fSet 6 (fComp (.nm 7) (fItems (fVar 2)) (fAnd (fTest (fBin (g2 dNe) (fVar 7) (fBin gIx (fVar 4) (fNeg (fC (.int 1)))))) (fTest (fBin (g2 (inD true)) (fTup (fCons (fBin gIx (fVar 4) (fNeg (fC (.int 1)))) (fCons (fVar 7) fNil))) (fVar 5)))) (fVar 7) [7]))
    (fIf (fTest (fBin (g2 dNe) (fVar 6) (fLst fNil))) (fSeq (fAppend (fVar 4) (fBin gIx (fVar 6) (fGo F__law_next [] (fCons (fVar 0) (fCons (fB (gD lenD) (fCons (fVar 6) fNil)) fNil)))))
    (fSet 5 (fBin gAdd (fVar 5) (fLst (fCons (fTup (fCons (fBin gIx (fVar 4) (fNeg (fC (.int 2)))) (fCons (fBin gIx (fVar 4) (fNeg (fC (.int 1)))) fNil))) (fCons (fTup (fCons (fBin gIx (fVar 4) (fNeg (fC (.int 1)))) (fCons (fBin gIx (fVar 4) (fNeg (fC (.int 2)))) fNil))) fNil)))))) fNext)))
    (fRet (fTup (fCons (fVar 1) (fCons (fB gTupOf (fCons (fVar 4) fNil)) (fCons (fB gTupOf (fCons (fComp (.nm 8) (fRange range1 (fCons (fBin (g2 (dI iSub)) (fB (gD lenD) (fCons (fVar 4) fNil)) (fC (.int 1))) fNil)) fYes (fGo F__law_stretch [] (fCons (fVar 0) fNil)) [8]) fNil)) fNil))))))))
def F__law_section : FnS := runF 3 9 fb__law_section
/-! _law_steps: 0=~leg 1=~least 2=~most 3=~number -/
def fb__law_steps : FS := (fSeq (fPar [1, 2] (fCons (fB (gD min2D) (fCons (fBin gIx (fVar 0) (fC (.int 1))) (fCons (fBin gIx (fVar 0) (fC (.int 2))) fNil))) (fCons (fB (gD max2D) (fCons (fBin gIx (fVar 0) (fC (.int 1))) (fCons (fBin gIx (fVar 0) (fC (.int 2))) fNil))) fNil)))
    (fSeq (fIf (fTest (fBin (g2 dEq) (fVar 1) (fBin gIx (fVar 0) (fC (.int 1))))) (fRet (fComp (.nm 3) (fRange range2 (fCons (fVar 1) (fCons (fVar 2) fNil))) fYes (fTup (fCons (fVar 3) (fCons (fC (.bl true)) fNil))) [3])) fNext)
    (fRet (fComp (.nm 3) (fRange range1 (fCons (fBin (g2 (dI iSub)) (fVar 2) (fVar 1)) fNil)) fYes (fTup (fCons (fBin (g2 (dI iSub)) (fBin (g2 (dI iSub)) (fVar 2) (fC (.int 1))) (fVar 3)) (fCons (fC (.bl false)) fNil))) [3]))))
def F__law_steps : FnS := runF 1 4 fb__law_steps
/-! _law_due: 0=~section_here 1=~leg 2=~least 3=~most 4=~rows 5=~length 6=~up 7=~down 8=~row -/
def fb__law_due : FS := (fSeq (fPar [2, 3] (fCons (fB (gD min2D) (fCons (fBin gIx (fVar 1) (fC (.int 1))) (fCons (fBin gIx (fVar 1) (fC (.int 2))) fNil))) (fCons (fB (gD max2D) (fCons (fBin gIx (fVar 1) (fC (.int 1))) (fCons (fBin gIx (fVar 1) (fC (.int 2))) fNil))) fNil)))
    (fSeq (fIf (fTest (fBin gGt (fVar 3) (fB (gD lenD) (fCons (fBin gIx (fVar 0) (fC (.int 2))) fNil)))) (fRet (fC .non)) fNext)
    (fSeq (fSet 4 (fSl (fBin gIx (fVar 0) (fC (.int 2))) (some (fVar 2)) (some (fVar 3))))
    (fSeq (fPar [5, 6, 7] (fCons (fB (gD sumD) (fCons (fComp (.nm 8) (fItems (fVar 4)) fYes (fBin gIx (fVar 8) (fC (.int 0))) [8]) fNil)) (fCons (fB (gD sumD) (fCons (fComp (.nm 8) (fItems (fVar 4)) fYes (fBin gIx (fVar 8) (fC (.int 1))) [8]) fNil)) (fCons (fB (gD sumD) (fCons (fComp (.nm 8) (fItems (fVar 4)) fYes (fBin gIx (fVar 8) (fC (.int 2))) [8]) fNil)) fNil))))
    (fRet (fIfE (fTest (fBin (g2 dEq) (fVar 2) (fBin gIx (fVar 1) (fC (.int 1))))) (fTup (fCons (fVar 5) (fCons (fVar 6) (fCons (fVar 7) fNil)))) (fTup (fCons (fVar 5) (fCons (fVar 7) (fCons (fVar 6) fNil))))))))))
def F__law_due : FnS := runF 2 9 fb__law_due
/-! _law_in_parts: 0=~section_here 1=~leg 2=~mark 3=~parts 4=~k -/
def fb__law_in_parts : FS := (fSeq (fFor (.nm 2) (fRange range2 (fCons (fBin gAdd (fB (gD min2D) (fCons (fBin gIx (fVar 1) (fC (.int 1))) (fCons (fBin gIx (fVar 1) (fC (.int 2))) fNil))) (fC (.int 1))) (fCons (fB (gD max2D) (fCons (fBin gIx (fVar 1) (fC (.int 1))) (fCons (fBin gIx (fVar 1) (fC (.int 2))) fNil))) fNil))) (fSeq (fSet 3 (fLst (fCons (fGo F_measure [] (fCons (fVar 0) (fCons (fTup (fCons (fBin gIx (fVar 1) (fC (.int 0))) (fCons (fBin gIx (fVar 1) (fC (.int 1))) (fCons (fVar 2) fNil)))) fNil))) (fCons (fGo F_measure [] (fCons (fVar 0) (fCons (fTup (fCons (fBin gIx (fVar 1) (fC (.int 0))) (fCons (fVar 2) (fCons (fBin gIx (fVar 1) (fC (.int 2))) fNil)))) fNil))) fNil))))
    (fIf (fTest (fBin (g2 dNe) (fB gTupOf (fCons (fComp (.nm 4) (fRange range1 (fCons (fC (.int 3)) fNil)) fYes (fBin gAdd (fBin gIx (fBin gIx (fVar 3) (fC (.int 0))) (fVar 4)) (fBin gIx (fBin gIx (fVar 3) (fC (.int 1))) (fVar 4))) [4]) fNil)) (fGo F_measure [] (fCons (fVar 0) (fCons (fVar 1) fNil))))) (fRet (fC (.bl false))) fNext)))
    (fRet (fC (.bl true))))
def F__law_in_parts : FnS := runF 2 5 fb__law_in_parts
/-! _law_leg_right: 0=~section_here 1=~leg 2=~told -/
def fb__law_leg_right : FS := (fSeq (fSet 2 (fGo F_steps_of [] (fCons (fVar 1) fNil)))
    (fSeq (fIf (fOr (fTest (fBin (g2 dNe) (fB (gD reprD) (fCons (fVar 2) fNil)) (fB (gD reprD) (fCons (fGo F__law_steps [] (fCons (fVar 1) fNil)) fNil)))) (fTest (fBin (g2 dNe) (fB (gD reprD) (fCons (fGo F_measure [] (fCons (fVar 0) (fCons (fVar 1) fNil))) fNil)) (fB (gD reprD) (fCons (fGo F__law_due [] (fCons (fVar 0) (fCons (fVar 1) fNil))) fNil))))) (fRet (fC (.bl false))) fNext)
    (fSeq (fAppend (fVar 2) (fTup (fCons (fBin gIx (fBin gIx (fVar 2) (fC (.int 0))) (fC (.int 0))) (fCons (fC .non) fNil))))
    (fSeq (fStore (fVar 2) (fC (.int 0)) (fTup (fCons (fC (.int 9)) (fCons (fC .non) fNil))))
    (fRet (fBin (g2 dEq) (fB (gD reprD) (fCons (fGo F_steps_of [] (fCons (fVar 1) fNil)) fNil)) (fB (gD reprD) (fCons (fGo F__law_steps [] (fCons (fVar 1) fNil)) fNil))))))))
def F__law_leg_right : FnS := runF 2 3 fb__law_leg_right
/-! law: 0=~script 1=~draw 2=~turn 3=~name 4=~pool 5=~sections 6=~before 7=~leg 8=~section_here 9=~k -/
def fb_law : FS := (fSeq (fSetC 1 (fGo F__law_begin [] (fCons (fVar 0) fNil)))
    (fSeq (fFor (.nm 2) (fRange range1 (fCons (fBin gAdd (fC (.int 1)) (fGo F__law_next [] (fCons (fVar 1) (fCons (fC (.int 2)) fNil)))) fNil)) (fSeq (fPar [3, 4] (fCons (fBin gIx (fGo F__law_words [] (fCons (fVar 1) (fCons (fC (.int 1)) fNil))) (fC (.int 0))) (fCons (fFrz (fGo F__law_words [] (fCons (fVar 1) (fCons (fBin gAdd (fC (.int 2)) (fGo F__law_next [] (fCons (fVar 1) (fCons (fC (.int 8)) fNil)))) fNil)))) fNil)))
    (fSeq (fSet 5 (fFrz (fComp (.nm 9) (fRange range1 (fCons (fC (.int 2)) fNil)) fYes (fGo F__law_section [] (fCons (fVar 1) (fCons (fVar 3) (fCons (fVar 4) fNil)))) [9])))
    (fSeq (fSet 6 (fB (gD reprD) (fCons (fVar 5) fNil)))
    (fSeq (fFor (.nm 7) (fItems (fComp (.nm 9) (fRange range1 (fCons (fC (.int 64)) fNil)) (fTest (fBin (g2 dNe) (fBin (g2 (dI iDiv)) (fVar 9) (fC (.int 8))) (fBin (g2 (dI iMod)) (fVar 9) (fC (.int 8))))) (fTup (fCons (fVar 3) (fCons (fBin (g2 (dI iDiv)) (fVar 9) (fC (.int 8))) (fCons (fBin (g2 (dI iMod)) (fVar 9) (fC (.int 8))) fNil)))) [9])) (fFor (.nm 8) (fItems (fVar 5)) (fIf (fNot (fTru (fGo F__law_leg_right [] (fCons (fVar 8) (fCons (fVar 7) fNil))))) (fRet (fC (.bl false))) fNext)))
    (fSeq (fSet 7 (fTup (fCons (fVar 3) (fCons (fBin (g2 (dI iMul)) (fGo F__law_next [] (fCons (fVar 1) (fCons (fC (.int 2)) fNil))) (fBin (g2 (dI iSub)) (fB (gD lenD) (fCons (fBin gIx (fBin gIx (fVar 5) (fC (.int 0))) (fC (.int 1))) fNil)) (fC (.int 1)))) (fCons (fC (.int 0)) fNil)))))
    (fSeq (fSet 7 (fIfE (fTest (fBin gGt (fBin gIx (fVar 7) (fC (.int 1))) (fC (.int 0)))) (fVar 7) (fTup (fCons (fVar 3) (fCons (fC (.int 0)) (fCons (fBin (g2 (dI iSub)) (fB (gD lenD) (fCons (fBin gIx (fBin gIx (fVar 5) (fC (.int 0))) (fC (.int 1))) fNil)) (fC (.int 1))) fNil))))))
    (fIf (fOr (fNot (fTru (fGo F__law_in_parts [] (fCons (fBin gIx (fVar 5) (fC (.int 0))) (fCons (fVar 7) fNil))))) (fTest (fBin (g2 dNe) (fB (gD reprD) (fCons (fVar 5) fNil)) (fVar 6)))) (fRet (fC (.bl false))) fNext))))))))
    (fRet (fC (.bl true)))))
def F_law : FnS := runF 1 10 fb_law
end FL

namespace FL
open PySem PySem.Spec PyProof.Rows L2 L3
/-! found_by: 0=book 1=legs 2=closed 3=shut 4=sections 5=found 6=leg 7=section -/
def lb_found_by_1 : FS := (fSeq (fSet 7 (fFrz (fIfE (fTest (fBin (g2 dEq) (fVar 6) (fC (.kt [(.str "ride")])))) (fC .non) (fDGet1 (fVar 4) (fBin gIx (fVar 6) (fC (.int 0)))))))
    (fSeq (fIf (fAnd (fTest (fBin (gIs true) (fVar 7) (fC .non))) (fTest (fBin gGe (fB (gD max2D) (fCons (fBin gIx (fVar 6) (fC (.int 1))) (fCons (fBin gIx (fVar 6) (fC (.int 2))) fNil))) (fB (gD lenD) (fCons (fBin gIx (fVar 7) (fC (.int 1))) fNil))))) (fSet 7 (fFrz (fC .non))) fNext)
    (fAppend (fVar 5) (fTup (fCons (fVar 6) (fCons (fVar 7) fNil))))))
def fb_found_by : FS := (fSeq (fSet 3 (fFrz (fOrV (fVar 2) (fTup fNil))))
    (fSeq (fSet 4 (fFrz (fB gDict (fCons (fComp (.nm 7) (fItems (fBin gIx (fVar 0) (fC (.int 0)))) (fTest (fBin (g2 (inD true)) (fBin gIx (fVar 7) (fC (.int 0))) (fVar 3))) (fTup (fCons (fBin gIx (fVar 7) (fC (.int 0))) (fCons (fVar 7) fNil))) [7]) fNil))))
    (fSeq (fSet 5 (fLst fNil))
    (fSeq (fFor (.nm 6) (fItems (fVar 1)) lb_found_by_1)
    (fRet (fVar 5))))))
def F_found_by : FnS := runF 3 8 fb_found_by
/-! from_to: 0=book 1=leg 2=closed 3=section -/
def fb_from_to : FS := (fSeq (fSet 3 (fFrz (fBin gIx (fBin gIx (fGo F_found_by [] (fCons (fVar 0) (fCons (fTup (fCons (fVar 1) fNil)) (fCons (fVar 2) fNil)))) (fC (.int 0))) (fC (.int 1)))))
    (fSeq (fIf (fTest (fBin (gIs false) (fVar 3) (fC .non))) (fRet (fC .non)) fNext)
    (fRet (fTup (fCons (fBin gIx (fBin gIx (fVar 3) (fC (.int 1))) (fBin gIx (fVar 1) (fC (.int 1)))) (fCons (fBin gIx (fBin gIx (fVar 3) (fC (.int 1))) (fBin gIx (fVar 1) (fC (.int 2)))) fNil))))))
def F_from_to : FnS := runF 3 4 fb_from_to
/-! counted_by: 0=book 1=legs 2=closed 3=found 4=fresh 5=leg 6=section 7=last 8=its -/
def lb_counted_by_1 : FS := (fIf (fTest (fBin (gIs false) (fVar 6) (fC .non))) (fSet 4 (fFrz (fC (.bl true)))) (fIf (fTru (fVar 4)) (fSeq (fAppend (fVar 3) (fLst (fCons (fTup (fCons (fVar 5) (fCons (fVar 6) fNil))) fNil)))
    (fSet 4 (fFrz (fC (.bl false))))) (fSeq (fAsg (.tp [(.nm 7), (.nm 8)]) (fBin gIx (fBin gIx (fVar 3) (fNeg (fC (.int 1)))) (fNeg (fC (.int 1)))))
    (fSeq (fIf (fTest (fBin (g2 dNe) (fBin gIx (fBin gIx (fVar 8) (fC (.int 1))) (fBin gIx (fVar 7) (fC (.int 2)))) (fBin gIx (fBin gIx (fVar 6) (fC (.int 1))) (fBin gIx (fVar 5) (fC (.int 1)))))) (fRet (fC .non)) fNext)
    (fAppend (fBin gIx (fVar 3) (fNeg (fC (.int 1)))) (fTup (fCons (fVar 5) (fCons (fVar 6) fNil))))))))
def fb_counted_by : FS := (fSeq (fPar [3, 4] (fCons (fLst fNil) (fCons (fFrz (fC (.bl true))) fNil)))
    (fSeq (fFor (.tp [(.nm 5), (.nm 6)]) (fItems (fGo F_found_by [] (fCons (fVar 0) (fCons (fVar 1) (fCons (fVar 2) fNil))))) lb_counted_by_1)
    (fRet (fVar 3))))
def F_counted_by : FnS := runF 3 9 fb_counted_by
/-! meets: 0=book 1=legs 2=closed -/
def fb_meets : FS := (fRet (fBin (gIs true) (fGo F_counted_by [] (fCons (fVar 0) (fCons (fVar 1) (fCons (fVar 2) fNil)))) (fC .non)))
def F_meets : FnS := runF 3 3 fb_meets
/-! pairs_of: 0=book 1=legs 2=closed 3=found 4=run -/
def lb_pairs_of_1 : FS := (fAugA 3 (fVar 4))
def fb_pairs_of : FS := (fSeq (fSet 3 (fLst fNil))
    (fSeq (fFor (.nm 4) (fItems (fOrV (fGo F_counted_by [] (fCons (fVar 0) (fCons (fVar 1) (fCons (fVar 2) fNil)))) (fLst fNil))) lb_pairs_of_1)
    (fRet (fVar 3))))
def F_pairs_of : FnS := runF 3 5 fb_pairs_of
/-! counted: 0=book 1=legs 2=closed 3=leg 4=section -/
def fb_counted : FS := (fRet (fComp (.tp [(.nm 3), (.nm 4)]) (fItems (fGo F_pairs_of [] (fCons (fVar 0) (fCons (fVar 1) (fCons (fVar 2) fNil))))) fYes (fVar 3) [3, 4]))
def F_counted : FnS := runF 3 5 fb_counted
/-! _law_book: 0=~draw 1=~most 2=~names 3=~pool 4=~sections 5=~used 6=~halts 7=~besides 8=~badges 9=~mark 10=~name 11=~one -/
def fb__law_book : FS := (fSeq (fPar [2, 3] (fCons (fFrz (fGo F__law_words [] (fCons (fVar 0) (fCons (fBin gAdd (fC (.int 1)) (fGo F__law_next [] (fCons (fVar 0) (fCons (fVar 1) fNil)))) fNil)))) (fCons (fFrz (fGo F__law_words [] (fCons (fVar 0) (fCons (fBin gAdd (fC (.int 2)) (fGo F__law_next [] (fCons (fVar 0) (fCons (fC (.int 9)) fNil)))) fNil)))) fNil)))
    (fSeq (fSet 4 (fFrz (fB gTupOf (fCons (fComp (.nm 10) (fItems (fVar 2)) fYes (fGo F__law_section [] (fCons (fVar 0) (fCons (fVar 10) (fCons (fVar 3) fNil)))) [10]) fNil))))
    (fSeq (fSet 5 (fFrz (fComp (.nm 9) (fItems (fB gSortS (fCons (fVar 3) fNil))) (fTru (fB (gD anyD) (fCons (fComp (.nm 11) (fItems (fVar 4)) fYes (fBin (g2 (inD false)) (fVar 9) (fBin gIx (fVar 11) (fC (.int 1)))) [11]) fNil))) (fVar 9) [9])))
    (fSeq (fSet 6 (fFrz (fB gTupOf (fCons (fComp (.nm 9) (fItems (fVar 5)) (fTest (fBin (g2 dEq) (fGo F__law_next [] (fCons (fVar 0) (fCons (fC (.int 2)) fNil))) (fC (.int 0)))) (fVar 9) [9]) fNil))))
    (fSeq (fSet 7 (fFrz (fIfE (fAnd (fTest (fBin gGt (fB (gD lenD) (fCons (fVar 2) fNil)) (fC (.int 1)))) (fTest (fBin (g2 dEq) (fGo F__law_next [] (fCons (fVar 0) (fCons (fC (.int 3)) fNil))) (fC (.int 0))))) (fTup (fCons (fB gTupOf (fCons (fSl (fVar 2) none (some (fC (.int 2)))) fNil)) fNil)) (fTup fNil))))
    (fSeq (fSet 8 (fFrz (fIfE (fTest (fBin (g2 dEq) (fGo F__law_next [] (fCons (fVar 0) (fCons (fC (.int 3)) fNil))) (fC (.int 0)))) (fTup (fCons (fTup (fCons (fC (.str "hill")) (fCons (fC (.str "climb")) (fCons (fBin gAdd (fC (.int 1)) (fGo F__law_next [] (fCons (fVar 0) (fCons (fC (.int 99999)) fNil)))) fNil)))) fNil)) (fTup fNil))))
    (fRet (fTup (fCons (fVar 4) (fCons (fVar 6) (fCons (fVar 7) (fCons (fVar 8) fNil))))))))))))
def F__law_book : FnS := runF 2 12 fb__law_book
/-! _law_leg: 0=~draw 1=~book_here 2=~way 3=~name 4=~marks 5=~rows 6=~many 7=~first 8=~last -/
def fb__law_leg : FS := (fSeq (fAsg (.tp [(.nm 2), (.tp [(.nm 3), (.nm 4), (.nm 5)])]) (fTup (fCons (fGo F__law_next [] (fCons (fVar 0) (fCons (fC (.int 9)) fNil))) (fCons (fBin gIx (fBin gIx (fVar 1) (fC (.int 0))) (fGo F__law_next [] (fCons (fVar 0) (fCons (fB (gD lenD) (fCons (fBin gIx (fVar 1) (fC (.int 0))) fNil)) fNil)))) fNil))))
    (fSeq (fSet 6 (fFrz (fIfE (fTest (fBin gLt (fVar 2) (fC (.int 2)))) (fC (.int 8)) (fB (gD lenD) (fCons (fVar 4) fNil)))))
    (fSeq (fPar [7, 8] (fCons (fFrz (fGo F__law_next [] (fCons (fVar 0) (fCons (fVar 6) fNil)))) (fCons (fFrz (fGo F__law_next [] (fCons (fVar 0) (fCons (fBin (g2 (dI iSub)) (fVar 6) (fC (.int 1))) fNil)))) fNil)))
    (fRet (fTup (fCons (fIfE (fTest (fBin (g2 dEq) (fVar 2) (fC (.int 0)))) (fBin gIx (fGo F__law_words [] (fCons (fVar 0) (fCons (fC (.int 1)) fNil))) (fC (.int 0))) (fVar 3)) (fCons (fVar 7) (fCons (fIfE (fTest (fBin gLt (fVar 8) (fVar 7))) (fVar 8) (fBin gAdd (fVar 8) (fC (.int 1)))) fNil))))))))
def F__law_leg : FnS := runF 2 9 fb__law_leg
/-! _law_end: 0=~book_here 1=~leg_here 2=~name 3=~marks 4=~rows -/
def lb__law_end_1 : FS := (fIf (fAnd (fTest (fBin (g2 dEq) (fVar 2) (fBin gIx (fVar 1) (fC (.int 0))))) (fTest (fBin gLt (fB (gD max2D) (fCons (fBin gIx (fVar 1) (fC (.int 1))) (fCons (fBin gIx (fVar 1) (fC (.int 2))) fNil))) (fB (gD lenD) (fCons (fVar 3) fNil))))) (fRet (fBin gIx (fVar 3) (fBin gIx (fVar 1) (fC (.int 2))))) fNext)
def fb__law_end : FS := (fSeq (fFor (.tp [(.nm 2), (.nm 3), (.nm 4)]) (fItems (fBin gIx (fVar 0) (fC (.int 0)))) lb__law_end_1)
    (fRet (fC (.str ""))))
def F__law_end : FnS := runF 2 5 fb__law_end
/-! _law_on: 0=~draw 1=~book_here 2=~here 3=~found 4=~name 5=~marks 6=~rows 7=~first 8=~many 9=~last 10=~at 11=~mark -/
def lb__law_on_1 : FS := (fExtend (fVar 3) (fComp (.tp [(.nm 10), (.nm 11)]) (fEnum (fCons (fVar 5) fNil)) (fTest (fBin (g2 dEq) (fVar 11) (fVar 2))) (fTup (fCons (fVar 4) (fCons (fVar 10) (fCons (fB (gD lenD) (fCons (fVar 5) fNil)) fNil)))) [10, 11]))
def fb__law_on : FS := (fSeq (fSet 3 (fLst fNil))
    (fSeq (fFor (.tp [(.nm 4), (.nm 5), (.nm 6)]) (fItems (fBin gIx (fVar 1) (fC (.int 0)))) lb__law_on_1)
    (fSeq (fAsg (.tp [(.nm 4), (.nm 7), (.nm 8)]) (fBin gIx (fVar 3) (fGo F__law_next [] (fCons (fVar 0) (fCons (fB (gD lenD) (fCons (fVar 3) fNil)) fNil)))))
    (fSeq (fSet 9 (fFrz (fGo F__law_next [] (fCons (fVar 0) (fCons (fBin (g2 (dI iSub)) (fVar 8) (fC (.int 1))) fNil)))))
    (fRet (fTup (fCons (fVar 4) (fCons (fVar 7) (fCons (fIfE (fTest (fBin gLt (fVar 9) (fVar 7))) (fVar 9) (fBin gAdd (fVar 9) (fC (.int 1)))) fNil)))))))))
def F__law_on : FnS := runF 3 12 fb__law_on
/-! _law_legs: 0=~draw 1=~book_here 2=~many 3=~found 4=~loose 5=~here 6=~way -/
def lb__law_legs_1 : FS := (fSeq (fPar [5, 6] (fCons (fFrz (fGo F__law_end [] (fCons (fVar 1) (fCons (fBin gIx (fVar 3) (fNeg (fC (.int 1)))) fNil)))) (fCons (fFrz (fGo F__law_next [] (fCons (fVar 0) (fCons (fC (.int 8)) fNil)))) fNil)))
    (fIf (fAnd (fTest (fBin gLt (fVar 6) (fC (.int 2)))) (fTest (fBin gLe (fBin gAdd (fB (gD lenD) (fCons (fVar 3) fNil)) (fC (.int 2))) (fVar 2)))) (fSeq (fAppend (fVar 3) (fTup (fCons (fC (.str "ride")) fNil)))
    (fAppend (fVar 3) (fGo F__law_leg [] (fCons (fVar 0) (fCons (fVar 1) fNil))))) (fIf (fOr (fTest (fBin (g2 dEq) (fVar 5) (fC (.str "")))) (fAnd (fTru (fVar 4)) (fTest (fBin (g2 dEq) (fVar 6) (fC (.int 2)))))) (fAppend (fVar 3) (fGo F__law_leg [] (fCons (fVar 0) (fCons (fVar 1) fNil)))) (fAppend (fVar 3) (fGo F__law_on [] (fCons (fVar 0) (fCons (fVar 1) (fCons (fVar 5) fNil))))))))
def fb__law_legs : FS := (fSeq (fPar [3, 4] (fCons (fLst (fCons (fGo F__law_leg [] (fCons (fVar 0) (fCons (fVar 1) fNil))) fNil)) (fCons (fFrz (fBin (g2 dEq) (fGo F__law_next [] (fCons (fVar 0) (fCons (fC (.int 3)) fNil))) (fC (.int 0)))) fNil)))
    (fSeq (whileF 1000 (fTest (fBin gLt (fB (gD lenD) (fCons (fVar 3) fNil)) (fVar 2))) lb__law_legs_1)
    (fRet (fB gTupOf (fCons (fVar 3) fNil)))))
def F__law_legs : FnS := runF 3 7 fb__law_legs
/-! _law_marks_of: 0=~book_here 1=~leg_here 2=~closed 3=~name 4=~marks 5=~rows -/
def lb__law_marks_of_1 : FS := (fIf (fAnd (fTest (fBin (g2 dEq) (fB (gD lenD) (fCons (fVar 1) fNil)) (fC (.int 3)))) (fAnd (fTest (fBin (g2 dEq) (fVar 3) (fBin gIx (fVar 1) (fC (.int 0))))) (fAnd (fTest (fBin (g2 (inD true)) (fVar 3) (fVar 2))) (fTest (fBin gLt (fB (gD max2D) (fCons (fBin gIx (fVar 1) (fC (.int 1))) (fCons (fBin gIx (fVar 1) (fC (.int 2))) fNil))) (fB (gD lenD) (fCons (fVar 4) fNil))))))) (fRet (fVar 4)) fNext)
def fb__law_marks_of : FS := (fSeq (fFor (.tp [(.nm 3), (.nm 4), (.nm 5)]) (fItems (fBin gIx (fVar 0) (fC (.int 0)))) lb__law_marks_of_1)
    (fRet (fTup fNil)))
def F__law_marks_of : FnS := runF 3 6 fb__law_marks_of
/-! _law_is_sound: 0=~book_here 1=~legs_here 2=~closed 3=~leg_here 4=~other 5=~here 6=~there -/
def lb__law_is_sound_1 : FS := (fSeq (fPar [5, 6] (fCons (fFrz (fGo F__law_marks_of [] (fCons (fVar 0) (fCons (fVar 3) (fCons (fVar 2) fNil))))) (fCons (fFrz (fGo F__law_marks_of [] (fCons (fVar 0) (fCons (fVar 4) (fCons (fVar 2) fNil))))) fNil)))
    (fIf (fAnd (fTest (fBin (g2 dNe) (fVar 5) (fTup fNil))) (fAnd (fTest (fBin (g2 dNe) (fVar 6) (fTup fNil))) (fTest (fBin (g2 dNe) (fBin gIx (fVar 5) (fBin gIx (fVar 3) (fC (.int 2)))) (fBin gIx (fVar 6) (fBin gIx (fVar 4) (fC (.int 1)))))))) (fRet (fC (.bl false))) fNext))
def fb__law_is_sound : FS := (fSeq (fFor (.tp [(.nm 3), (.nm 4)]) (fZipS (fCons (fSl (fVar 1) none (some (fNeg (fC (.int 1))))) (fCons (fSl (fVar 1) (some (fC (.int 1))) none) fNil))) lb__law_is_sound_1)
    (fRet (fC (.bl true))))
def F__law_is_sound : FnS := runF 3 7 fb__law_is_sound
/-! _law_counted: 0=~book_here 1=~legs_here 2=~closed 3=~sound 4=~leg_here -/
def fb__law_counted : FS := (fSeq (fSet 3 (fFrz (fGo F__law_is_sound [] (fCons (fVar 0) (fCons (fVar 1) (fCons (fVar 2) fNil))))))
    (fRet (fComp (.nm 4) (fItems (fVar 1)) (fAnd (fTru (fVar 3)) (fTest (fBin (g2 dNe) (fGo F__law_marks_of [] (fCons (fVar 0) (fCons (fVar 4) (fCons (fVar 2) fNil)))) (fTup fNil)))) (fVar 4) [4])))
def F__law_counted : FnS := runF 3 5 fb__law_counted
/-! _law_other_book: 0=~draw 1=~book_here 2=~sections 3=~name 4=~marks 5=~rows 6=~way -/
def lb__law_other_book_1 : FS := (fSeq (fSet 6 (fFrz (fGo F__law_next [] (fCons (fVar 0) (fCons (fC (.int 4)) fNil)))))
    (fIf (fAnd (fTest (fBin (g2 dEq) (fVar 6) (fC (.int 0)))) (fTest (fBin gGt (fB (gD lenD) (fCons (fVar 4) fNil)) (fC (.int 2))))) (fAppend (fVar 2) (fTup (fCons (fVar 3) (fCons (fSl (fVar 4) none (some (fNeg (fC (.int 1))))) (fCons (fSl (fVar 5) none (some (fNeg (fC (.int 1))))) fNil))))) (fIf (fTest (fBin (g2 dEq) (fVar 6) (fC (.int 1)))) (fAppend (fVar 2) (fTup (fCons (fVar 3) (fCons (fRev (fVar 4)) (fCons (fRev (fVar 5)) fNil))))) (fIf (fOr (fTest (fBin (g2 dEq) (fVar 6) (fC (.int 2)))) (fTest (fBin (g2 dEq) (fVar 2) (fLst fNil)))) (fAppend (fVar 2) (fTup (fCons (fVar 3) (fCons (fVar 4) (fCons (fVar 5) fNil))))) fNext))))
def fb__law_other_book : FS := (fSeq (fSet 2 (fLst fNil))
    (fSeq (fFor (.tp [(.nm 3), (.nm 4), (.nm 5)]) (fItems (fBin gIx (fVar 1) (fC (.int 0)))) lb__law_other_book_1)
    (fRet (fTup (fCons (fB gTupOf (fCons (fVar 2) fNil)) (fCons (fTup fNil) (fCons (fTup fNil) (fCons (fTup fNil) fNil))))))))
def F__law_other_book : FnS := runF 2 7 fb__law_other_book
/-! _law_asked: 0=~draw 1=~book_here 2=~legs_here 3=~closed 4=~sound 5=~found -/
def fb__law_asked : FS := (fSeq (fIf (fTest (fBin (g2 dEq) (fGo F__law_next [] (fCons (fVar 0) (fCons (fC (.int 2)) fNil))) (fC (.int 0)))) (fSeq (fSet 4 (fGo F_meets [] (fCons (fVar 1) (fCons (fVar 2) (fCons (fVar 3) fNil)))))
    (fRet (fLst (fCons (fMov 4) (fCons (fGo F_counted [] (fCons (fVar 1) (fCons (fVar 2) (fCons (fVar 3) fNil)))) fNil))))) fNext)
    (fSeq (fSet 5 (fGo F_counted [] (fCons (fVar 1) (fCons (fVar 2) (fCons (fVar 3) fNil)))))
    (fRet (fLst (fCons (fGo F_meets [] (fCons (fVar 1) (fCons (fVar 2) (fCons (fVar 3) fNil)))) (fCons (fMov 5) fNil))))))
def F__law_asked : FnS := runF 4 6 fb__law_asked
/-! _law_ends_right: 0=~book_here 1=~legs_here 2=~closed 3=~leg_here 4=~marks 5=~due -/
def lb__law_ends_right_1 : FS := (fSeq (fSet 4 (fFrz (fGo F__law_marks_of [] (fCons (fVar 0) (fCons (fVar 3) (fCons (fVar 2) fNil))))))
    (fIf (fTest (fBin (g2 dEq) (fB (gD lenD) (fCons (fVar 3) fNil)) (fC (.int 3)))) (fSeq (fSet 5 (fFrz (fIfE (fTest (fBin (g2 dEq) (fVar 4) (fTup fNil))) (fC .non) (fTup (fCons (fBin gIx (fVar 4) (fBin gIx (fVar 3) (fC (.int 1)))) (fCons (fBin gIx (fVar 4) (fBin gIx (fVar 3) (fC (.int 2)))) fNil))))))
    (fIf (fTest (fBin (g2 dNe) (fB (gD reprD) (fCons (fGo F_from_to [] (fCons (fVar 0) (fCons (fVar 3) (fCons (fVar 2) fNil)))) fNil)) (fB (gD reprD) (fCons (fVar 5) fNil)))) (fRet (fC (.bl false))) fNext)) fNext))
def fb__law_ends_right : FS := (fSeq (fFor (.nm 3) (fItems (fVar 1)) lb__law_ends_right_1)
    (fRet (fC (.bl true))))
def F__law_ends_right : FnS := runF 3 6 fb__law_ends_right
/-! _law_right: 0=~draw 1=~book_here 2=~legs_here 3=~closed 4=~before 5=~due 6=~told 7=~plain -/
def fb__law_right : FS := (fSeq (fSet 4 (fFrz (fB (gD reprD) (fCons (fLst (fCons (fVar 1) (fCons (fVar 2) (fCons (fVar 3) fNil)))) fNil))))
    (fSeq (fSet 5 (fFrz (fLst (fCons (fGo F__law_is_sound [] (fCons (fVar 1) (fCons (fVar 2) (fCons (fVar 3) fNil)))) (fCons (fGo F__law_counted [] (fCons (fVar 1) (fCons (fVar 2) (fCons (fVar 3) fNil)))) fNil)))))
    (fSeq (fSet 6 (fGo F__law_asked [] (fCons (fVar 0) (fCons (fVar 1) (fCons (fVar 2) (fCons (fVar 3) fNil))))))
    (fSeq (fIf (fOr (fTest (fBin (g2 dNe) (fB (gD reprD) (fCons (fVar 6) fNil)) (fB (gD reprD) (fCons (fVar 5) fNil)))) (fNot (fTru (fGo F__law_ends_right [] (fCons (fVar 1) (fCons (fVar 2) (fCons (fVar 3) fNil))))))) (fRet (fC (.bl false))) fNext)
    (fSeq (fAppend (fBin gIx (fVar 6) (fC (.int 1))) (fTup (fCons (fC (.str "told")) (fCons (fC (.int 0)) (fCons (fC (.int 1)) fNil)))))
    (fSeq (fStore (fBin gIx (fVar 6) (fC (.int 1))) (fC (.int 0)) (fC .non))
    (fSeq (fSet 7 (fFrz (fLst (fCons (fGo F_meets [.dat .non] (fCons (fVar 1) (fCons (fVar 2) fNil))) (fCons (fGo F_counted [.dat .non] (fCons (fVar 1) (fCons (fVar 2) fNil))) (fCons (fGo F_meets [] (fCons (fVar 1) (fCons (fVar 2) (fCons (fC .non) fNil)))) (fCons (fGo F_counted [] (fCons (fVar 1) (fCons (fVar 2) (fCons (fC .non) fNil)))) fNil)))))))
    (fSeq (fIf (fAnd (fTest (fBin (g2 dEq) (fVar 3) (fTup fNil))) (fTest (fBin (g2 dNe) (fB (gD reprD) (fCons (fVar 7) fNil)) (fB (gD reprD) (fCons (fBin gAdd (fVar 5) (fVar 5)) fNil))))) (fRet (fC (.bl false))) fNext)
    (fRet (fAndV (fBin (g2 dEq) (fB (gD reprD) (fCons (fGo F__law_asked [] (fCons (fVar 0) (fCons (fVar 1) (fCons (fVar 2) (fCons (fVar 3) fNil))))) fNil)) (fB (gD reprD) (fCons (fVar 5) fNil))) (fBin (g2 dEq) (fB (gD reprD) (fCons (fLst (fCons (fVar 1) (fCons (fVar 2) (fCons (fVar 3) fNil)))) fNil)) (fVar 4))))))))))))
def F__law_right : FnS := runF 4 8 fb__law_right
/-! law: 0=~script 1=~draw 2=~book_here 3=~other 4=~turn 5=~legs_here 6=~closed 7=~one 8=~section_here -/
def lb_law_ee8_1 : FS := (fIf (fNot (fTru (fGo F__law_right [] (fCons (fVar 1) (fCons (fVar 7) (fCons (fVar 5) (fCons (fVar 6) fNil))))))) (fRet (fC (.bl false))) fNext)
def lb_law_ee8_2 : FS := (fSeq (fSet 5 (fFrz (fGo F__law_legs [] (fCons (fVar 1) (fCons (fVar 2) (fCons (fBin gAdd (fC (.int 1)) (fGo F__law_next [] (fCons (fVar 1) (fCons (fC (.int 12)) fNil)))) fNil))))))
    (fSeq (fSet 6 (fFrz (fB gTupOf (fCons (fComp (.nm 8) (fItems (fBin gIx (fVar 2) (fC (.int 0)))) (fTest (fBin (g2 dEq) (fGo F__law_next [] (fCons (fVar 1) (fCons (fC (.int 4)) fNil))) (fC (.int 0)))) (fBin gIx (fVar 8) (fC (.int 0))) [8]) fNil))))
    (fSeq (fSet 6 (fFrz (fBin gIx (fLst (fCons (fTup fNil) (fCons (fVar 6) (fCons (fBin gAdd (fVar 6) (fB gTupOf (fCons (fGo F__law_words [] (fCons (fVar 1) (fCons (fC (.int 1)) fNil))) fNil))) (fCons (fBin gAdd (fVar 6) (fVar 6)) fNil))))) (fGo F__law_next [] (fCons (fVar 1) (fCons (fC (.int 4)) fNil))))))
    (fFor (.nm 7) (fItems (fTup (fCons (fVar 2) (fCons (fVar 3) (fCons (fVar 2) fNil))))) lb_law_ee8_1))))
def fb_law_ee8 : FS := (fSeq (fSetC 1 (fGo F__law_begin [] (fCons (fVar 0) fNil)))
    (fSeq (fSet 2 (fFrz (fGo F__law_book [] (fCons (fVar 1) (fCons (fC (.int 6)) fNil)))))
    (fSeq (fSet 3 (fFrz (fGo F__law_other_book [] (fCons (fVar 1) (fCons (fVar 2) fNil)))))
    (fSeq (fFor (.nm 4) (fRange range1 (fCons (fC (.int 4)) fNil)) lb_law_ee8_2)
    (fRet (fC (.bl true)))))))
def F_law_ee8 : FnS := runF 1 9 fb_law_ee8
end FL

namespace FL
open PySem PySem.Spec PyProof.Rows L2 L3
/-! turned: 0=legs 1=one -/
def fb_turned : FS := (fRet (fB gTupOf (fCons (fComp (.nm 1) (fRevd (fVar 0)) fYes (fIfE (fTest (fBin (g2 dEq) (fVar 1) (fC (.kt [(.str "ride")])))) (fVar 1) (fTup (fCons (fBin gIx (fVar 1) (fC (.int 0))) (fCons (fBin gIx (fVar 1) (fC (.int 2))) (fCons (fBin gIx (fVar 1) (fC (.int 1))) fNil))))) [1]) fNil)))
def F_turned : FnS := runF 1 2 fb_turned
/-! passed: 0=book 1=legs 2=closed 3=found 4=leg 5=section 6=number 7=forth -/
def lb_passed_1 : FS := (fExtend (fVar 3) (fComp (.tp [(.nm 6), (.nm 7)]) (fItems (fGo F_steps_of [] (fCons (fVar 4) fNil))) fYes (fTup (fCons (fBin gIx (fVar 4) (fC (.int 0))) (fCons (fVar 6) (fCons (fVar 7) fNil)))) [6, 7]))
def fb_passed : FS := (fSeq (fSet 3 (fLst fNil))
    (fSeq (fFor (.tp [(.nm 4), (.nm 5)]) (fItems (fGo F_pairs_of [] (fCons (fVar 0) (fCons (fVar 1) (fCons (fVar 2) fNil))))) lb_passed_1)
    (fRet (fVar 3))))
def F_passed : FnS := runF 3 8 fb_passed
/-! sums_of: 0=book 1=legs 2=closed 3=length 4=climb 5=fall 6=leg 7=section 8=more 9=higher 10=deeper -/
def lb_sums_of_1 : FS := (fSeq (fAsg (.tp [(.nm 8), (.nm 9), (.nm 10)]) (fGo F_measure [] (fCons (fVar 7) (fCons (fVar 6) fNil))))
    (fSeq (fAug 3 gAdd2 (fVar 8))
    (fSeq (fAug 4 gAdd2 (fVar 9))
    (fAug 5 gAdd2 (fVar 10)))))
def fb_sums_of : FS := (fSeq (fAsg (.tp [(.nm 3), (.nm 4), (.nm 5)]) (fTup (fCons (fC (.int 0)) (fCons (fC (.int 0)) (fCons (fC (.int 0)) fNil)))))
    (fSeq (fFor (.tp [(.nm 6), (.nm 7)]) (fItems (fGo F_pairs_of [] (fCons (fVar 0) (fCons (fVar 1) (fCons (fVar 2) fNil))))) lb_sums_of_1)
    (fRet (fTup (fCons (fVar 3) (fCons (fVar 4) (fCons (fVar 5) fNil)))))))
def F_sums_of : FnS := runF 3 11 fb_sums_of
/-! trails: 0=book 1=legs 2=closed 3=found 4=run 5=marks 6=leg 7=section 8=way 9=number -/
def lb_trails_1 : FS := (fSeq (fSet 8 (fFrz (fIfE (fTest (fBin gLt (fBin gIx (fVar 6) (fC (.int 1))) (fBin gIx (fVar 6) (fC (.int 2))))) (fC (.int 1)) (fNeg (fC (.int 1))))))
    (fExtend (fVar 5) (fComp (.nm 9) (fRange range3 (fCons (fBin gIx (fVar 6) (fC (.int 1))) (fCons (fBin gIx (fVar 6) (fC (.int 2))) (fCons (fVar 8) fNil)))) fYes (fBin gIx (fBin gIx (fVar 7) (fC (.int 1))) (fBin gAdd (fVar 9) (fVar 8))) [9])))
def lb_trails_2 : FS := (fSeq (fSet 5 (fLst (fCons (fBin gIx (fBin gIx (fBin gIx (fBin gIx (fVar 4) (fC (.int 0))) (fC (.int 1))) (fC (.int 1))) (fBin gIx (fBin gIx (fBin gIx (fVar 4) (fC (.int 0))) (fC (.int 0))) (fC (.int 1)))) fNil)))
    (fSeq (fFor (.tp [(.nm 6), (.nm 7)]) (fItems (fVar 4)) lb_trails_1)
    (fAppend (fVar 3) (fMov 5))))
def fb_trails : FS := (fSeq (fSet 3 (fLst fNil))
    (fSeq (fFor (.nm 4) (fItems (fOrV (fGo F_counted_by [] (fCons (fVar 0) (fCons (fVar 1) (fCons (fVar 2) fNil)))) (fLst fNil))) lb_trails_2)
    (fRet (fVar 3))))
def F_trails : FnS := runF 3 10 fb_trails
/-! _law_runs: 0=~book_here 1=~legs_here 2=~closed 3=~found 4=~open_run 5=~leg_here 6=~counts -/
def lb__law_runs_1 : FS := (fSeq (fSet 6 (fFrz (fBin (g2 dNe) (fGo F__law_marks_of [] (fCons (fVar 0) (fCons (fVar 5) (fCons (fVar 2) fNil)))) (fTup fNil))))
    (fSeq (fIf (fAnd (fTru (fVar 6)) (fTru (fVar 4))) (fStore (fVar 3) (fNeg (fC (.int 1))) (fBin gAdd (fBin gIx (fVar 3) (fNeg (fC (.int 1)))) (fLst (fCons (fVar 5) fNil)))) (fIf (fTru (fVar 6)) (fAppend (fVar 3) (fLst (fCons (fVar 5) fNil))) fNext))
    (fSet 4 (fFrz (fVar 6)))))
def fb__law_runs : FS := (fSeq (fPar [3, 4] (fCons (fLst fNil) (fCons (fFrz (fC (.bl false))) fNil)))
    (fSeq (fFor (.nm 5) (fItems (fVar 1)) lb__law_runs_1)
    (fRet (fIfE (fTru (fGo F__law_is_sound [] (fCons (fVar 0) (fCons (fVar 1) (fCons (fVar 2) fNil))))) (fVar 3) (fLst fNil)))))
def F__law_runs : FnS := runF 3 7 fb__law_runs
/-! _law_gone: 0=~book_here 1=~run 2=~closed 3=~marks 4=~rows 5=~name 6=~first 7=~last 8=~row 9=~at 10=~way -/
def lb__law_gone_1 : FS := (fSeq (fSet 10 (fFrz (fIfE (fTest (fBin gLt (fVar 9) (fVar 7))) (fC (.int 1)) (fNeg (fC (.int 1))))))
    (fSeq (fAppend (fVar 4) (fTup (fCons (fVar 5) (fCons (fB (gD min2D) (fCons (fVar 9) (fCons (fBin gAdd (fVar 9) (fVar 10)) fNil))) (fCons (fBin (g2 dEq) (fVar 10) (fC (.int 1))) fNil)))))
    (fSeq (fSet 9 (fFrz (fBin gAdd (fVar 9) (fVar 10))))
    (fAppend (fVar 3) (fBin gIx (fVar 8) (fVar 9))))))
def lb__law_gone_2 : FS := (fSeq (fPar [8, 9] (fCons (fFrz (fGo F__law_marks_of [] (fCons (fVar 0) (fCons (fTup (fCons (fVar 5) (fCons (fVar 6) (fCons (fVar 7) fNil)))) (fCons (fVar 2) fNil))))) (fCons (fFrz (fVar 6)) fNil)))
    (fSeq (fSet 3 (fIfE (fTest (fBin (g2 dEq) (fVar 3) (fLst fNil))) (fBin gAdd (fVar 3) (fLst (fCons (fBin gIx (fVar 8) (fVar 6)) fNil))) (fMov 3)))
    (whileF 1000 (fTest (fBin (g2 dNe) (fVar 9) (fVar 7))) lb__law_gone_1)))
def fb__law_gone : FS := (fSeq (fPar [3, 4] (fCons (fLst fNil) (fCons (fLst fNil) fNil)))
    (fSeq (fFor (.tp [(.nm 5), (.nm 6), (.nm 7)]) (fItems (fVar 1)) lb__law_gone_2)
    (fRet (fLst (fCons (fMov 3) (fCons (fMov 4) fNil))))))
def F__law_gone : FnS := runF 3 11 fb__law_gone
/-! _law_sums: 0=~book_here 1=~rows 2=~length 3=~climb 4=~fall 5=~name 6=~number 7=~forth 8=~stretch_here 9=~one -/
def lb__law_sums_1 : FS := (fSeq (fSet 8 (fFrz (fBin gIx (fComp (.nm 9) (fItems (fBin gIx (fVar 0) (fC (.int 0)))) (fTest (fBin (g2 dEq) (fBin gIx (fVar 9) (fC (.int 0))) (fVar 5))) (fBin gIx (fBin gIx (fVar 9) (fC (.int 2))) (fVar 6)) [9]) (fC (.int 0)))))
    (fSeq (fSet 2 (fFrz (fBin gAdd (fVar 2) (fBin gIx (fVar 8) (fC (.int 0))))))
    (fSeq (fSet 3 (fFrz (fBin gAdd (fVar 3) (fIfE (fTru (fVar 7)) (fBin gIx (fVar 8) (fC (.int 1))) (fBin gIx (fVar 8) (fC (.int 2)))))))
    (fSet 4 (fFrz (fBin gAdd (fVar 4) (fIfE (fTru (fVar 7)) (fBin gIx (fVar 8) (fC (.int 2))) (fBin gIx (fVar 8) (fC (.int 1))))))))))
def fb__law_sums : FS := (fSeq (fAsg (.tp [(.nm 2), (.nm 3), (.nm 4)]) (fTup (fCons (fC (.int 0)) (fCons (fC (.int 0)) (fCons (fC (.int 0)) fNil)))))
    (fSeq (fFor (.tp [(.nm 5), (.nm 6), (.nm 7)]) (fItems (fVar 1)) lb__law_sums_1)
    (fRet (fTup (fCons (fVar 2) (fCons (fVar 3) (fCons (fVar 4) fNil)))))))
def F__law_sums : FnS := runF 2 10 fb__law_sums
/-! _law_one_by_one: 0=~book_here 1=~legs_here 2=~closed 3=~found 4=~leg_here 5=~one 6=~section_here -/
def lb__law_one_by_one_1 : FS := (fSeq (fSet 5 (fFrz (fGo F_measure [] (fCons (fBin gIx (fComp (.nm 6) (fItems (fBin gIx (fVar 0) (fC (.int 0)))) (fTest (fBin (g2 dEq) (fBin gIx (fVar 6) (fC (.int 0))) (fBin gIx (fVar 4) (fC (.int 0))))) (fVar 6) [6]) (fC (.int 0))) (fCons (fVar 4) fNil)))))
    (fSet 3 (fFrz (fTup (fCons (fBin gAdd (fBin gIx (fVar 3) (fC (.int 0))) (fBin gIx (fVar 5) (fC (.int 0)))) (fCons (fBin gAdd (fBin gIx (fVar 3) (fC (.int 1))) (fBin gIx (fVar 5) (fC (.int 1)))) (fCons (fBin gAdd (fBin gIx (fVar 3) (fC (.int 2))) (fBin gIx (fVar 5) (fC (.int 2)))) fNil)))))))
def fb__law_one_by_one : FS := (fSeq (fSet 3 (fFrz (fTup (fCons (fC (.int 0)) (fCons (fC (.int 0)) (fCons (fC (.int 0)) fNil))))))
    (fSeq (fFor (.nm 4) (fItems (fGo F__law_counted [] (fCons (fVar 0) (fCons (fVar 1) (fCons (fVar 2) fNil))))) lb__law_one_by_one_1)
    (fRet (fVar 3))))
def F__law_one_by_one : FnS := runF 3 7 fb__law_one_by_one
/-! _law_right: 0=~book_here 1=~legs_here 2=~closed 3=~before 4=~gone_here 5=~ways 6=~rows 7=~marks 8=~some 9=~told 10=~found 11=~run -/
def lb__law_right_b6f_1 : FS := (fSet 6 (fFrz (fBin gAdd (fVar 6) (fVar 8))))
def fb__law_right_b6f : FS := (fSeq (fSet 3 (fFrz (fB (gD reprD) (fCons (fLst (fCons (fVar 0) (fCons (fVar 1) (fCons (fVar 2) fNil)))) fNil))))
    (fSeq (fSet 4 (fFrz (fComp (.nm 11) (fItems (fGo F__law_runs [] (fCons (fVar 0) (fCons (fVar 1) (fCons (fVar 2) fNil))))) fYes (fGo F__law_gone [] (fCons (fVar 0) (fCons (fVar 11) (fCons (fVar 2) fNil)))) [11])))
    (fSeq (fPar [5, 6] (fCons (fFrz (fComp (.tp [(.nm 7), (.nm 8)]) (fItems (fVar 4)) fYes (fVar 7) [7, 8])) (fCons (fFrz (fLst fNil)) fNil)))
    (fSeq (fFor (.tp [(.nm 7), (.nm 8)]) (fItems (fVar 4)) lb__law_right_b6f_1)
    (fSeq (fPar [9, 10] (fCons (fGo F_trails [] (fCons (fVar 0) (fCons (fVar 1) (fCons (fVar 2) fNil)))) (fCons (fGo F_passed [] (fCons (fVar 0) (fCons (fVar 1) (fCons (fVar 2) fNil)))) fNil)))
    (fSeq (fIf (fOr (fTest (fBin (g2 dNe) (fB (gD reprD) (fCons (fVar 9) fNil)) (fB (gD reprD) (fCons (fVar 5) fNil)))) (fTest (fBin (g2 dNe) (fB (gD reprD) (fCons (fVar 10) fNil)) (fB (gD reprD) (fCons (fVar 6) fNil))))) (fRet (fC (.bl false))) fNext)
    (fSeq (fIf (fTest (fBin (g2 dNe) (fB (gD reprD) (fCons (fGo F_sums_of [] (fCons (fVar 0) (fCons (fVar 1) (fCons (fVar 2) fNil)))) fNil)) (fB (gD reprD) (fCons (fGo F__law_sums [] (fCons (fVar 0) (fCons (fVar 6) fNil))) fNil)))) (fRet (fC (.bl false))) fNext)
    (fSeq (fAppend (fVar 9) (fLst (fCons (fC (.str "told")) fNil)))
    (fSeq (fAppend (fBin gIx (fVar 9) (fC (.int 0))) (fC (.str "told")))
    (fSeq (fInsert0 (fVar 10) (fTup (fCons (fC (.str "told")) (fCons (fC (.int 0)) (fCons (fC (.bl true)) fNil)))))
    (fSeq (fIf (fTest (fBin (g2 dNe) (fB (gD reprD) (fCons (fLst (fCons (fGo F_trails [] (fCons (fVar 0) (fCons (fVar 1) (fCons (fVar 2) fNil)))) (fCons (fGo F_passed [] (fCons (fVar 0) (fCons (fVar 1) (fCons (fVar 2) fNil)))) fNil))) fNil)) (fB (gD reprD) (fCons (fLst (fCons (fVar 5) (fCons (fVar 6) fNil))) fNil)))) (fRet (fC (.bl false))) fNext)
    (fSeq (fIf (fTest (fBin (g2 dNe) (fGo F__law_one_by_one [] (fCons (fVar 0) (fCons (fVar 1) (fCons (fVar 2) fNil)))) (fGo F_sums_of [] (fCons (fVar 0) (fCons (fVar 1) (fCons (fVar 2) fNil)))))) (fRet (fC (.bl false))) fNext)
    (fRet (fBin (g2 dEq) (fB (gD reprD) (fCons (fLst (fCons (fVar 0) (fCons (fVar 1) (fCons (fVar 2) fNil)))) fNil)) (fVar 3)))))))))))))))
def F__law_right_b6f : FnS := runF 3 12 fb__law_right_b6f
/-! _law_back_right: 0=~book_here 1=~legs_here 2=~closed 3=~back 4=~ways 5=~rows 6=~length 7=~climb 8=~fall 9=~marks 10=~name 11=~number 12=~forth -/
def fb__law_back_right : FS := (fSeq (fSet 3 (fFrz (fGo F_turned [] (fCons (fVar 1) fNil))))
    (fSeq (fSet 4 (fFrz (fRev (fComp (.nm 9) (fItems (fGo F_trails [] (fCons (fVar 0) (fCons (fVar 1) (fCons (fVar 2) fNil))))) fYes (fRev (fVar 9)) [9]))))
    (fSeq (fSet 5 (fFrz (fRev (fComp (.tp [(.nm 10), (.nm 11), (.nm 12)]) (fItems (fGo F_passed [] (fCons (fVar 0) (fCons (fVar 1) (fCons (fVar 2) fNil))))) fYes (fTup (fCons (fVar 10) (fCons (fVar 11) (fCons (fNotV (fVar 12)) fNil)))) [10, 11, 12]))))
    (fSeq (fAsg (.tp [(.nm 6), (.nm 7), (.nm 8)]) (fGo F_sums_of [] (fCons (fVar 0) (fCons (fVar 1) (fCons (fVar 2) fNil)))))
    (fSeq (fIf (fOr (fTest (fBin (g2 dNe) (fGo F_trails [] (fCons (fVar 0) (fCons (fVar 3) (fCons (fVar 2) fNil)))) (fVar 4))) (fTest (fBin (g2 dNe) (fGo F_passed [] (fCons (fVar 0) (fCons (fVar 3) (fCons (fVar 2) fNil)))) (fVar 5)))) (fRet (fC (.bl false))) fNext)
    (fRet (fBin (g2 dEq) (fGo F_sums_of [] (fCons (fVar 0) (fCons (fVar 3) (fCons (fVar 2) fNil)))) (fTup (fCons (fVar 6) (fCons (fVar 8) (fCons (fVar 7) fNil)))))))))))
def F__law_back_right : FnS := runF 3 13 fb__law_back_right
/-! law: 0=~script 1=~draw 2=~book_here 3=~turn 4=~legs_here 5=~closed 6=~told 7=~plain 8=~none 9=~section_here -/
def lb_law_ca3_1 : FS := (fSeq (fSet 4 (fFrz (fGo F__law_legs [] (fCons (fVar 1) (fCons (fVar 2) (fCons (fBin gAdd (fC (.int 1)) (fGo F__law_next [] (fCons (fVar 1) (fCons (fBin gIx (fLst (fCons (fC (.int 3)) (fCons (fC (.int 9)) (fCons (fC (.int 18)) fNil)))) (fGo F__law_next [] (fCons (fVar 1) (fCons (fC (.int 3)) fNil)))) fNil)))) fNil))))))
    (fSeq (fSet 5 (fFrz (fB gTupOf (fCons (fComp (.nm 9) (fItems (fBin gIx (fVar 2) (fC (.int 0)))) (fTest (fBin (g2 dEq) (fGo F__law_next [] (fCons (fVar 1) (fCons (fC (.int 5)) fNil))) (fC (.int 0)))) (fBin gIx (fVar 9) (fC (.int 0))) [9]) fNil))))
    (fSeq (fSet 5 (fFrz (fBin gIx (fLst (fCons (fTup fNil) (fCons (fVar 5) fNil))) (fGo F__law_next [] (fCons (fVar 1) (fCons (fC (.int 2)) fNil))))))
    (fSeq (fIf (fOr (fNot (fTru (fGo F__law_right_b6f [] (fCons (fVar 2) (fCons (fVar 4) (fCons (fVar 5) fNil)))))) (fNot (fTru (fGo F__law_back_right [] (fCons (fVar 2) (fCons (fVar 4) (fCons (fVar 5) fNil))))))) (fRet (fC (.bl false))) fNext)
    (fSeq (fSet 6 (fFrz (fLst (fCons (fGo F_trails [.dat .non] (fCons (fVar 2) (fCons (fVar 4) fNil))) (fCons (fGo F_passed [.dat .non] (fCons (fVar 2) (fCons (fVar 4) fNil))) (fCons (fGo F_sums_of [.dat .non] (fCons (fVar 2) (fCons (fVar 4) fNil))) fNil))))))
    (fSeq (fSet 7 (fFrz (fLst (fCons (fGo F_trails [] (fCons (fVar 2) (fCons (fVar 4) (fCons (fTup fNil) fNil)))) (fCons (fGo F_passed [] (fCons (fVar 2) (fCons (fVar 4) (fCons (fTup fNil) fNil)))) (fCons (fGo F_sums_of [] (fCons (fVar 2) (fCons (fVar 4) (fCons (fTup fNil) fNil)))) fNil))))))
    (fSeq (fSet 8 (fFrz (fLst (fCons (fGo F_trails [] (fCons (fVar 2) (fCons (fVar 4) (fCons (fC .non) fNil)))) (fCons (fGo F_passed [] (fCons (fVar 2) (fCons (fVar 4) (fCons (fC .non) fNil)))) (fCons (fGo F_sums_of [] (fCons (fVar 2) (fCons (fVar 4) (fCons (fC .non) fNil)))) fNil))))))
    (fIf (fOr (fTest (fBin (g2 dNe) (fVar 6) (fVar 7))) (fTest (fBin (g2 dNe) (fVar 6) (fVar 8)))) (fRet (fC (.bl false))) fNext))))))))
def fb_law_ca3 : FS := (fSeq (fSetC 1 (fGo F__law_begin [] (fCons (fVar 0) fNil)))
    (fSeq (fSet 2 (fFrz (fGo F__law_book [] (fCons (fVar 1) (fCons (fC (.int 5)) fNil)))))
    (fSeq (fFor (.nm 3) (fRange range1 (fCons (fC (.int 3)) fNil)) lb_law_ca3_1)
    (fRet (fC (.bl true))))))
def F_law_ca3 : FnS := runF 1 10 fb_law_ca3
end FL

namespace FL
open PySem PySem.Spec PyProof.Rows L2 L3
/-! goes_on: 0=leg 1=other -/
def fb_goes_on : FS := (fSeq (fIf (fOr (fTest (fBin (g2 dEq) (fVar 0) (fC (.kt [(.str "ride")])))) (fOr (fTest (fBin (g2 dEq) (fVar 1) (fC (.kt [(.str "ride")])))) (fOr (fTest (fBin (g2 dNe) (fBin gIx (fVar 0) (fC (.int 0))) (fBin gIx (fVar 1) (fC (.int 0))))) (fTest (fBin (g2 dNe) (fBin gIx (fVar 0) (fC (.int 2))) (fBin gIx (fVar 1) (fC (.int 1)))))))) (fRet (fC (.bl false))) fNext)
    (fRet (fBin (g2 dEq) (fBin gLt (fBin gIx (fVar 0) (fC (.int 1))) (fBin gIx (fVar 0) (fC (.int 2)))) (fBin gLt (fBin gIx (fVar 1) (fC (.int 1))) (fBin gIx (fVar 1) (fC (.int 2)))))))
def F_goes_on : FnS := runF 2 2 fb_goes_on
/-! shortened: 0=legs 1=found 2=leg -/
def lb_shortened_1 : FS := (fIf (fAnd (fTest (fBin gGt (fB (gD lenD) (fCons (fVar 1) fNil)) (fC (.int 0)))) (fTru (fGo F_goes_on [] (fCons (fBin gIx (fVar 1) (fNeg (fC (.int 1)))) (fCons (fVar 2) fNil))))) (fStore (fVar 1) (fNeg (fC (.int 1))) (fTup (fCons (fBin gIx (fVar 2) (fC (.int 0))) (fCons (fBin gIx (fBin gIx (fVar 1) (fNeg (fC (.int 1)))) (fC (.int 1))) (fCons (fBin gIx (fVar 2) (fC (.int 2))) fNil))))) (fAppend (fVar 1) (fVar 2)))
def fb_shortened : FS := (fSeq (fSet 1 (fLst fNil))
    (fSeq (fFor (.nm 2) (fItems (fVar 0)) lb_shortened_1)
    (fRet (fB gTupOf (fCons (fVar 1) fNil)))))
def F_shortened : FnS := runF 1 3 fb_shortened
/-! _law_cut: 0=~draw 1=~legs_here 2=~many 3=~some 4=~time 5=~at 6=~one 7=~mark -/
def lb__law_cut_1 : FS := (fSeq (fSet 5 (fFrz (fGo F__law_next [] (fCons (fVar 0) (fCons (fB (gD lenD) (fCons (fVar 3) fNil)) fNil)))))
    (fSeq (fSet 6 (fFrz (fBin gIx (fVar 3) (fVar 5))))
    (fIf (fAnd (fTest (fBin (g2 dEq) (fB (gD lenD) (fCons (fVar 6) fNil)) (fC (.int 3)))) (fAnd (fTest (fBin gGt (fB (gD absD) (fCons (fBin (g2 (dI iSub)) (fBin gIx (fVar 6) (fC (.int 1))) (fBin gIx (fVar 6) (fC (.int 2)))) fNil)) (fC (.int 1)))) (fTest (fBin gLt (fB (gD lenD) (fCons (fVar 3) fNil)) (fC (.int 60)))))) (fSeq (fSet 7 (fFrz (fBin gAdd (fBin gAdd (fB (gD min2D) (fCons (fBin gIx (fVar 6) (fC (.int 1))) (fCons (fBin gIx (fVar 6) (fC (.int 2))) fNil))) (fC (.int 1))) (fGo F__law_next [] (fCons (fVar 0) (fCons (fBin (g2 (dI iSub)) (fB (gD absD) (fCons (fBin (g2 (dI iSub)) (fBin gIx (fVar 6) (fC (.int 1))) (fBin gIx (fVar 6) (fC (.int 2)))) fNil)) (fC (.int 1))) fNil))))))
    (fSet 3 (fFrz (fBin gAdd (fBin gAdd (fSl (fVar 3) none (some (fVar 5))) (fLst (fCons (fTup (fCons (fBin gIx (fVar 6) (fC (.int 0))) (fCons (fBin gIx (fVar 6) (fC (.int 1))) (fCons (fVar 7) fNil)))) (fCons (fTup (fCons (fBin gIx (fVar 6) (fC (.int 0))) (fCons (fVar 7) (fCons (fBin gIx (fVar 6) (fC (.int 2))) fNil)))) fNil)))) (fSl (fVar 3) (some (fBin gAdd (fVar 5) (fC (.int 1)))) none))))) fNext)))
def fb__law_cut : FS := (fSeq (fSet 3 (fFrz (fB gLstOf (fCons (fVar 1) fNil))))
    (fSeq (fFor (.nm 4) (fRange range1 (fCons (fVar 2) fNil)) lb__law_cut_1)
    (fRet (fB gTupOf (fCons (fVar 3) fNil)))))
def F__law_cut : FnS := runF 3 8 fb__law_cut
/-! _law_one_by_one: 0=~legs_here 1=~found 2=~one 3=~way 4=~at -/
def lb__law_one_by_one_ab0_1 : FS := (fIf (fTest (fBin (g2 dEq) (fB (gD lenD) (fCons (fVar 2) fNil)) (fC (.int 1)))) (fAppend (fVar 1) (fVar 2)) (fSeq (fSet 3 (fFrz (fIfE (fTest (fBin gLt (fBin gIx (fVar 2) (fC (.int 1))) (fBin gIx (fVar 2) (fC (.int 2))))) (fC (.int 1)) (fNeg (fC (.int 1))))))
    (fExtend (fVar 1) (fComp (.nm 4) (fRange range3 (fCons (fBin gIx (fVar 2) (fC (.int 1))) (fCons (fBin gIx (fVar 2) (fC (.int 2))) (fCons (fVar 3) fNil)))) fYes (fTup (fCons (fBin gIx (fVar 2) (fC (.int 0))) (fCons (fVar 4) (fCons (fBin gAdd (fVar 4) (fVar 3)) fNil)))) [4]))))
def fb__law_one_by_one_ab0 : FS := (fSeq (fSet 1 (fLst fNil))
    (fSeq (fFor (.nm 2) (fItems (fVar 0)) lb__law_one_by_one_ab0_1)
    (fRet (fVar 1))))
def F__law_one_by_one_ab0 : FnS := runF 1 5 fb__law_one_by_one_ab0
/-! _law_could_be_one: 0=~legs_here 1=~one 2=~other -/
def lb__law_could_be_one_1 : FS := (fIf (fAnd (fTest (fBin (g2 dEq) (fB (gD lenD) (fCons (fVar 1) fNil)) (fC (.int 3)))) (fAnd (fTest (fBin (g2 dEq) (fB (gD lenD) (fCons (fVar 2) fNil)) (fC (.int 3)))) (fAnd (fTest (fBin (g2 dEq) (fBin gIx (fVar 1) (fC (.int 0))) (fBin gIx (fVar 2) (fC (.int 0))))) (fTest (fBin (g2 dEq) (fBin gIx (fVar 1) (fC (.int 2))) (fBin gIx (fVar 2) (fC (.int 1)))))))) (fIf (fTest (fBin gGt (fBin (g2 (dI iMul)) (fBin (g2 (dI iSub)) (fBin gIx (fVar 1) (fC (.int 2))) (fBin gIx (fVar 1) (fC (.int 1)))) (fBin (g2 (dI iSub)) (fBin gIx (fVar 2) (fC (.int 2))) (fBin gIx (fVar 2) (fC (.int 1))))) (fC (.int 0)))) (fRet (fC (.bl true))) fNext) fNext)
def fb__law_could_be_one : FS := (fSeq (fFor (.tp [(.nm 1), (.nm 2)]) (fZipS (fCons (fSl (fVar 0) none (some (fNeg (fC (.int 1))))) (fCons (fSl (fVar 0) (some (fC (.int 1))) none) fNil))) lb__law_could_be_one_1)
    (fRet (fC (.bl false))))
def F__law_could_be_one : FnS := runF 1 3 fb__law_could_be_one
/-! _law_behind: 0=~legs_here 1=~found 2=~one -/
def lb__law_behind_1 : FS := (fSet 1 (fFrz (fBin gAdd (fLst (fCons (fIfE (fTest (fBin (g2 dEq) (fB (gD lenD) (fCons (fVar 2) fNil)) (fC (.int 1)))) (fVar 2) (fTup (fCons (fBin gIx (fVar 2) (fC (.int 0))) (fCons (fBin gIx (fVar 2) (fC (.int 2))) (fCons (fBin gIx (fVar 2) (fC (.int 1))) fNil))))) fNil)) (fVar 1))))
def fb__law_behind : FS := (fSeq (fSet 1 (fFrz (fLst fNil)))
    (fSeq (fFor (.nm 2) (fItems (fVar 0)) lb__law_behind_1)
    (fRet (fB gTupOf (fCons (fVar 1) fNil)))))
def F__law_behind : FnS := runF 1 3 fb__law_behind
/-! _law_right: 0=~book_here 1=~legs_here 2=~before 3=~back 4=~short 5=~one -/
def fb__law_right_d84 : FS := (fSeq (fSet 2 (fFrz (fB (gD reprD) (fCons (fLst (fCons (fVar 0) (fCons (fVar 1) fNil))) fNil))))
    (fSeq (fPar [3, 4] (fCons (fFrz (fGo F_turned [] (fCons (fVar 1) fNil))) (fCons (fFrz (fGo F_shortened [] (fCons (fVar 1) fNil))) fNil)))
    (fSeq (fIf (fOr (fTest (fBin (g2 dNe) (fB (gD reprD) (fCons (fVar 3) fNil)) (fB (gD reprD) (fCons (fGo F__law_behind [] (fCons (fVar 1) fNil)) fNil)))) (fTest (fBin (g2 dNe) (fB (gD reprD) (fCons (fGo F_turned [] (fCons (fVar 3) fNil)) fNil)) (fB (gD reprD) (fCons (fVar 1) fNil))))) (fRet (fC (.bl false))) fNext)
    (fSeq (fIf (fOr (fNot (fTru (fIsi "tuple" (fVar 4)))) (fTru (fGo F__law_could_be_one [] (fCons (fVar 4) fNil)))) (fRet (fC (.bl false))) fNext)
    (fSeq (fIf (fOr (fTest (fBin (g2 dNe) (fB (gD reprD) (fCons (fGo F__law_one_by_one_ab0 [] (fCons (fVar 4) fNil)) fNil)) (fB (gD reprD) (fCons (fGo F__law_one_by_one_ab0 [] (fCons (fVar 1) fNil)) fNil)))) (fTest (fBin (g2 dNe) (fB (gD reprD) (fCons (fGo F_shortened [] (fCons (fVar 1) fNil)) fNil)) (fB (gD reprD) (fCons (fVar 4) fNil))))) (fRet (fC (.bl false))) fNext)
    (fSeq (fIf (fOr (fTest (fBin (g2 dNe) (fB (gD reprD) (fCons (fGo F_shortened [] (fCons (fVar 3) fNil)) fNil)) (fB (gD reprD) (fCons (fGo F__law_behind [] (fCons (fVar 4) fNil)) fNil)))) (fTest (fBin (g2 dNe) (fB (gD reprD) (fCons (fGo F_shortened [] (fCons (fVar 4) fNil)) fNil)) (fB (gD reprD) (fCons (fVar 4) fNil))))) (fRet (fC (.bl false))) fNext)
    (fSeq (fIf (fTest (fBin (g2 dEq) (fB (gD lenD) (fCons (fGo F_counted [.dat .non] (fCons (fVar 0) (fCons (fVar 1) fNil))) fNil)) (fB (gD lenD) (fCons (fComp (.nm 5) (fItems (fVar 1)) (fTest (fBin (g2 dEq) (fB (gD lenD) (fCons (fVar 5) fNil)) (fC (.int 3)))) (fVar 5) [5]) fNil)))) (fIf (fOr (fTest (fBin (g2 dNe) (fB (gD reprD) (fCons (fGo F_passed [.dat .non] (fCons (fVar 0) (fCons (fVar 4) fNil))) fNil)) (fB (gD reprD) (fCons (fGo F_passed [.dat .non] (fCons (fVar 0) (fCons (fVar 1) fNil))) fNil)))) (fTest (fBin (g2 dNe) (fGo F_sums_of [.dat .non] (fCons (fVar 0) (fCons (fVar 4) fNil))) (fGo F_sums_of [.dat .non] (fCons (fVar 0) (fCons (fVar 1) fNil)))))) (fRet (fC (.bl false))) fNext) fNext)
    (fRet (fBin (g2 dEq) (fB (gD reprD) (fCons (fLst (fCons (fVar 0) (fCons (fVar 1) fNil))) fNil)) (fVar 2))))))))))
def F__law_right_d84 : FnS := runF 2 6 fb__law_right_d84
/-! law: 0=~script 1=~draw 2=~book_here 3=~turn 4=~legs_here -/
def lb_law_80f_1 : FS := (fSeq (fSet 4 (fFrz (fGo F__law_legs [] (fCons (fVar 1) (fCons (fVar 2) (fCons (fBin gAdd (fC (.int 1)) (fGo F__law_next [] (fCons (fVar 1) (fCons (fBin gIx (fLst (fCons (fC (.int 4)) (fCons (fC (.int 12)) (fCons (fC (.int 12)) fNil)))) (fGo F__law_next [] (fCons (fVar 1) (fCons (fC (.int 3)) fNil)))) fNil)))) fNil))))))
    (fSeq (fSet 4 (fFrz (fGo F__law_cut [] (fCons (fVar 1) (fCons (fVar 4) (fCons (fGo F__law_next [] (fCons (fVar 1) (fCons (fBin gIx (fLst (fCons (fC (.int 6)) (fCons (fC (.int 24)) (fCons (fC (.int 60)) fNil)))) (fGo F__law_next [] (fCons (fVar 1) (fCons (fC (.int 3)) fNil)))) fNil))) fNil))))))
    (fIf (fOr (fNot (fTru (fGo F__law_right_d84 [] (fCons (fVar 2) (fCons (fVar 4) fNil))))) (fNot (fTru (fGo F__law_right_d84 [] (fCons (fVar 2) (fCons (fGo F__law_behind [] (fCons (fVar 4) fNil)) fNil)))))) (fRet (fC (.bl false))) fNext)))
def fb_law_80f : FS := (fSeq (fSetC 1 (fGo F__law_begin [] (fCons (fVar 0) fNil)))
    (fSeq (fSet 2 (fFrz (fGo F__law_book [] (fCons (fVar 1) (fCons (fC (.int 3)) fNil)))))
    (fSeq (fFor (.nm 3) (fRange range1 (fCons (fC (.int 2)) fNil)) lb_law_80f_1)
    (fRet (fC (.bl true))))))
def F_law_80f : FnS := runF 1 5 fb_law_80f
end FL

namespace GK14
open PySem PySem.Spec PyProof.Rows L2 L3 FL
def top (i : Nat) : Stmt := PySem.Challenge.pw_pathbook_k14_legs_turned_and_shortened.main.body.getD i (.Pass ⟨0, 0, 0, 0⟩)
abbrev s_steps_of : Stmt := top 2
theorem sc_steps_of : FnScope ["leg", "first", "last", "number"] ["leg"] (defScope s_steps_of) := ⟨rfl, rfl, rfl, by decide +kernel, rfl, by decide +kernel, by decide +kernel⟩
section
variable {P : Program} {w : World} {K : PySem.W.Frag} {mg : Str → Option Value} {base : Heap}
theorem fg_steps_of {f : Addr} {fd : FuncData} {dV : Value} (T : FunV K "steps_of" "steps_of" s_steps_of f fd dV) (z_range : mg "range" = none) : FG P w K mg base 1 f fd ["leg"] (spF K 1 F_steps_of) := by
  have sc := sc_steps_of
  exact fg_body 1 4 T sc rfl rfl fun cdv A outer s H E room gd => ⟨_,
    (db_cons (ds_asg (de_sl (de_var 0) (.som de_int) .non) ((dg_tup rfl (dgs_cons (by exact dg_name sc.nd) (dgs_cons (by exact dg_name sc.nd) dgs_nil)))))
    (db_cons (ds_if (dt_lt (de_var 1) (de_var 2)) (db_one (ds_ret (de_comp rfl sc.nd (di_range2 z_range (da_cons (de_var 1) (da_cons (de_var 2) da_nil))) (blkOk_by (own := [("number", 3)]) (by rfl)) (fun _ _ _ _ _ => by exact dg_name sc.nd) (fun _ _ _ _ _ => ⟨_, dts_nil⟩) (fun _ _ _ _ _ => ⟨_, (de_tup (da_cons (de_var 3) (da_cons de_bl da_nil)))⟩)))) db_nil)
    (db_one (ds_ret (de_comp rfl sc.nd (di_range3 z_range (da_cons (de_sub (de_var 1) de_int) (da_cons (de_sub (de_var 2) de_int) (da_cons (de_neg de_int) da_nil)))) (blkOk_by (own := [("number", 3)]) (by rfl)) (fun _ _ _ _ _ => by exact dg_name sc.nd) (fun _ _ _ _ _ => ⟨_, dts_nil⟩) (fun _ _ _ _ _ => ⟨_, (de_tup (da_cons (de_var 3) (da_cons de_bl da_nil)))⟩))))))⟩
end
abbrev s_measure : Stmt := top 3
theorem sc_measure : FnScope ["section", "leg", "length", "climb", "fall", "number", "forth", "more", "up", "down"] ["section", "leg"] (defScope s_measure) := ⟨rfl, rfl, rfl, by decide +kernel, rfl, by decide +kernel, by decide +kernel⟩
section
variable {P : Program} {w : World} {K : PySem.W.Frag} {mg : Str → Option Value} {base : Heap}
theorem fg_measure {f : Addr} {fd : FuncData} {dV : Value} (T : FunV K "measure" "measure" s_measure f fd dV) (D_steps_of : Df P w K mg base 1 "steps_of" 1 F_steps_of [] []) (z_max : mg "max" = none) (z_len : mg "len" = none) : FG P w K mg base 2 f fd ["section", "leg"] (spF K 2 F_measure) := by
  have sc := sc_measure
  exact fg_body 2 10 T sc rfl rfl fun cdv A outer s H E room gd => ⟨_,
    (db_cons (ds_if (dt_ge (de_max2 rfl z_max (da_cons (de_ix (unit1_of room) (de_var 1) de_int) (da_cons (de_ix (unit1_of room) (de_var 1) de_int) da_nil))) (de_len z_len (da_cons (de_ix (unit1_of room) (de_var 0) de_int) da_nil))) (db_one (ds_ret de_non)) db_nil)
    (db_cons (ds_asg (de_tup (da_cons de_int (da_cons de_int (da_cons de_int da_nil)))) ((dg_tup rfl (dgs_cons (by exact dg_name sc.nd) (dgs_cons (by exact dg_name sc.nd) (dgs_cons (by exact dg_name sc.nd) dgs_nil))))))
    (db_cons (ds_for rfl (di_any (de_call D_steps_of room gd (da_cons (de_var 1) da_nil))) ((dg_tup rfl (dgs_cons (by exact dg_name sc.nd) (dgs_cons (by exact dg_name sc.nd) dgs_nil)))) (db_cons (ds_asg (de_ix (unit1_of room) (de_ix (unit1_of room) (de_var 0) de_int) (de_var 5)) ((dg_tup rfl (dgs_cons (by exact dg_name sc.nd) (dgs_cons (by exact dg_name sc.nd) (dgs_cons (by exact dg_name sc.nd) dgs_nil))))))
    (db_cons (ds_augAdd (i := 2) sc.nd (de_var 7))
    (db_cons (ds_augAdd (i := 3) sc.nd (de_ifE (dt_truth (de_var 6)) (de_var 8) (de_var 9)))
    (db_one (ds_augAdd (i := 4) sc.nd (de_ifE (dt_truth (de_var 6)) (de_var 9) (de_var 8))))))))
    (db_one (ds_ret (de_tup (da_cons (de_var 2) (da_cons (de_var 3) (da_cons (de_var 4) da_nil)))))))))⟩
end
abbrev s_turned : Stmt := top 4
theorem sc_turned : FnScope ["legs", "one"] ["legs"] (defScope s_turned) := ⟨rfl, rfl, rfl, by decide +kernel, rfl, by decide +kernel, by decide +kernel⟩
section
variable {P : Program} {w : World} {K : PySem.W.Frag} {mg : Str → Option Value} {base : Heap}
theorem fg_turned {f : Addr} {fd : FuncData} {dV : Value} (T : FunV K "turned" "turned" s_turned f fd dV) {v_RIDE : V} (z_tuple : mg "tuple" = none) (z_reversed : mg "reversed" = none) (g_RIDE : Glb K mg "RIDE" v_RIDE (.kt [(.str "ride")])) : FG P w K mg base 1 f fd ["legs"] (spF K 1 F_turned) := by
  have sc := sc_turned
  exact fg_body 1 2 T sc rfl rfl fun cdv A outer s H E room gd => ⟨_,
    (db_one (ds_ret (de_tuple z_tuple (da_cons (de_comp rfl sc.nd (di_rev z_reversed (de_var 0)) (blkOk_by (own := [("one", 1)]) (by rfl)) (fun _ _ _ _ _ => by exact dg_name sc.nd) (fun _ _ _ _ _ => ⟨_, dts_nil⟩) (fun _ _ _ _ _ => ⟨_, (de_ifE (dt_eq (units_of room) (de_var 1) (de_globD g_RIDE)) (de_var 1) (de_tup (da_cons (de_ix (unit1_of room) (de_var 1) de_int) (da_cons (de_ix (unit1_of room) (de_var 1) de_int) (da_cons (de_ix (unit1_of room) (de_var 1) de_int) da_nil)))))⟩)) da_nil))))⟩
end
abbrev s_goes_on : Stmt := top 5
theorem sc_goes_on : FnScope ["leg", "other"] ["leg", "other"] (defScope s_goes_on) := ⟨rfl, rfl, rfl, by decide +kernel, rfl, by decide +kernel, by decide +kernel⟩
section
variable {P : Program} {w : World} {K : PySem.W.Frag} {mg : Str → Option Value} {base : Heap}
theorem fg_goes_on {f : Addr} {fd : FuncData} {dV : Value} (T : FunV K "goes_on" "goes_on" s_goes_on f fd dV) {v_RIDE : V} (g_RIDE : Glb K mg "RIDE" v_RIDE (.kt [(.str "ride")])) : FG P w K mg base 1 f fd ["leg", "other"] (spF K 2 F_goes_on) := by
  have sc := sc_goes_on
  exact fg_body 2 2 T sc rfl rfl fun cdv A outer s H E room gd => ⟨_,
    (db_cons (ds_if (DW.dt (dw_or (dt_eq (units_of room) (de_var 0) (de_globD g_RIDE)) (dw_or (dt_eq (units_of room) (de_var 1) (de_globD g_RIDE)) (dw_or (dt_ne (units_of room) (de_ix (unit1_of room) (de_var 0) de_int) (de_ix (unit1_of room) (de_var 1) de_int)) (dw_or1 (dt_ne (units_of room) (de_ix (unit1_of room) (de_var 0) de_int) (de_ix (unit1_of room) (de_var 1) de_int))))))) (db_one (ds_ret de_bl)) db_nil)
    (db_one (ds_ret (de_eq (units_of room) (de_lt (de_ix (unit1_of room) (de_var 0) de_int) (de_ix (unit1_of room) (de_var 0) de_int)) (de_lt (de_ix (unit1_of room) (de_var 1) de_int) (de_ix (unit1_of room) (de_var 1) de_int))))))⟩
end
abbrev s_shortened : Stmt := top 6
theorem sc_shortened : FnScope ["legs", "found", "leg"] ["legs"] (defScope s_shortened) := ⟨rfl, rfl, rfl, by decide +kernel, rfl, by decide +kernel, by decide +kernel⟩
section
variable {P : Program} {w : World} {K : PySem.W.Frag} {mg : Str → Option Value} {base : Heap}
theorem fg_shortened {f : Addr} {fd : FuncData} {dV : Value} (T : FunV K "shortened" "shortened" s_shortened f fd dV) (D_goes_on : Df P w K mg base 1 "goes_on" 2 F_goes_on [] []) (z_len : mg "len" = none) (z_tuple : mg "tuple" = none) : FG P w K mg base 2 f fd ["legs"] (spF K 1 F_shortened) := by
  have sc := sc_shortened
  exact fg_body 1 3 T sc rfl rfl fun cdv A outer s H E room gd => ⟨_,
    (db_cons (ds_set sc.nd (de_lst da_nil))
    (db_cons (ds_for rfl (di_any (de_var 0)) (dg_name sc.nd) (db_one (ds_if (DW.dt (dw_and (dt_gt (de_len z_len (da_cons (de_var 1) da_nil)) de_int) (dw_and1 (dt_truth (de_call D_goes_on room gd (da_cons (de_ix (unit1_of room) (de_var 1) (de_neg de_int)) (da_cons (de_var 2) da_nil))))))) (db_one (ds_store (unit1_of room) (de_tup (da_cons (de_ix (unit1_of room) (de_var 2) de_int) (da_cons (de_ix (unit1_of room) (de_ix (unit1_of room) (de_var 1) (de_neg de_int)) de_int) (da_cons (de_ix (unit1_of room) (de_var 2) de_int) da_nil)))) (de_var 1) (de_neg de_int))) (db_one (ds_append (de_var 1) (de_var 2))))))
    (db_one (ds_ret (de_tuple z_tuple (da_cons (de_var 1) da_nil))))))⟩
end
abbrev s_found_by : Stmt := top 7
theorem sc_found_by : FnScope ["book", "legs", "closed", "shut", "sections", "found", "leg", "section"] ["book", "legs", "closed"] (defScope s_found_by) := ⟨rfl, rfl, rfl, by decide +kernel, rfl, by decide +kernel, by decide +kernel⟩
section
variable {P : Program} {w : World} {K : PySem.W.Frag} {mg : Str → Option Value} {base : Heap}
theorem fg_found_by {f : Addr} {fd : FuncData} {dV : Value} (T : FunV K "found_by" "found_by" s_found_by f fd dV) {v_RIDE : V} (z_dict : mg "dict" = none) (z_max : mg "max" = none) (z_len : mg "len" = none) (g_RIDE : Glb K mg "RIDE" v_RIDE (.kt [(.str "ride")])) : FG P w K mg base 1 f fd ["book", "legs", "closed"] (spF K 3 F_found_by) := by
  have sc := sc_found_by
  exact fg_body 3 8 T sc rfl rfl fun cdv A outer s H E room gd => ⟨_,
    (db_cons (ds_set sc.nd (de_frz (de_orV (de_var 2) (de_one (de_tup da_nil)))))
    (db_cons (ds_set sc.nd (de_frz (de_dict rfl z_dict (da_cons (de_comp rfl sc.nd (di_any (de_ix (unit1_of room) (de_var 0) de_int)) (blkOk_by (own := [("section", 7)]) (by rfl)) (fun _ _ _ _ _ => by exact dg_name sc.nd) (fun _ _ _ _ _ => ⟨_, (dts_one (dt_notIn (units_of room) (de_ix (unit1_of room) (de_var 7) de_int) (de_var 3)))⟩) (fun _ _ _ _ _ => ⟨_, (de_tup (da_cons (de_ix (unit1_of room) (de_var 7) de_int) (da_cons (de_var 7) da_nil)))⟩)) da_nil))))
    (db_cons (ds_set sc.nd (de_lst da_nil))
    (db_cons (ds_for rfl (di_any (de_var 1)) (dg_name sc.nd) (db_cons (ds_set sc.nd (de_frz (de_ifE (dt_eq (units_of room) (de_var 6) (de_globD g_RIDE)) de_non (de_dget1 (unit1_of room) (de_var 4) (de_ix (unit1_of room) (de_var 6) de_int)))))
    (db_cons (ds_if (DW.dt (dw_and (dt_notN (de_var 7) de_non) (dw_and1 (dt_ge (de_max2 rfl z_max (da_cons (de_ix (unit1_of room) (de_var 6) de_int) (da_cons (de_ix (unit1_of room) (de_var 6) de_int) da_nil))) (de_len z_len (da_cons (de_ix (unit1_of room) (de_var 7) de_int) da_nil)))))) (db_one (ds_set sc.nd (de_frz de_non))) db_nil)
    (db_one (ds_append (de_var 5) (de_tup (da_cons (de_var 6) (da_cons (de_var 7) da_nil))))))))
    (db_one (ds_ret (de_var 5)))))))⟩
end
abbrev s_counted_by : Stmt := top 8
theorem sc_counted_by : FnScope ["book", "legs", "closed", "found", "fresh", "leg", "section", "last", "its"] ["book", "legs", "closed"] (defScope s_counted_by) := ⟨rfl, rfl, rfl, by decide +kernel, rfl, by decide +kernel, by decide +kernel⟩
section
variable {P : Program} {w : World} {K : PySem.W.Frag} {mg : Str → Option Value} {base : Heap}
theorem fg_counted_by {f : Addr} {fd : FuncData} {dV : Value} (T : FunV K "counted_by" "counted_by" s_counted_by f fd dV) (D_found_by : Df P w K mg base 1 "found_by" 3 F_found_by [] []) : FG P w K mg base 2 f fd ["book", "legs", "closed"] (spF K 3 F_counted_by) := by
  have sc := sc_counted_by
  exact fg_body 3 9 T sc rfl rfl fun cdv A outer s H E room gd => ⟨_,
    (db_cons (ds_par2 (i := 3) (j := 4) rfl sc.nd (da_cons (de_lst da_nil) (da_cons (de_frz de_bl) da_nil)))
    (db_cons (ds_for rfl (di_any (de_call D_found_by room gd (da_cons (de_var 0) (da_cons (de_var 1) (da_cons (de_var 2) da_nil))))) ((dg_tup rfl (dgs_cons (by exact dg_name sc.nd) (dgs_cons (by exact dg_name sc.nd) dgs_nil)))) (db_one (ds_if (dt_isN (de_var 6) de_non) (db_one (ds_set sc.nd (de_frz de_bl))) (db_one (ds_if (dt_truth (de_var 4)) (db_cons (ds_append (de_var 3) (de_lst (da_cons (de_tup (da_cons (de_var 5) (da_cons (de_var 6) da_nil))) da_nil)))
    (db_one (ds_set sc.nd (de_frz de_bl)))) (db_cons (ds_asg (de_ix (unit1_of room) (de_ix (unit1_of room) (de_var 3) (de_neg de_int)) (de_neg de_int)) ((dg_tup rfl (dgs_cons (by exact dg_name sc.nd) (dgs_cons (by exact dg_name sc.nd) dgs_nil)))))
    (db_cons (ds_if (dt_ne (units_of room) (de_ix (unit1_of room) (de_ix (unit1_of room) (de_var 8) de_int) (de_ix (unit1_of room) (de_var 7) de_int)) (de_ix (unit1_of room) (de_ix (unit1_of room) (de_var 6) de_int) (de_ix (unit1_of room) (de_var 5) de_int))) (db_one (ds_ret de_non)) db_nil)
    (db_one (ds_append (de_ix (unit1_of room) (de_var 3) (de_neg de_int)) (de_tup (da_cons (de_var 5) (da_cons (de_var 6) da_nil))))))))))))
    (db_one (ds_ret (de_var 3)))))⟩
end
abbrev s_pairs_of : Stmt := top 9
theorem sc_pairs_of : FnScope ["book", "legs", "closed", "found", "run"] ["book", "legs", "closed"] (defScope s_pairs_of) := ⟨rfl, rfl, rfl, by decide +kernel, rfl, by decide +kernel, by decide +kernel⟩
section
variable {P : Program} {w : World} {K : PySem.W.Frag} {mg : Str → Option Value} {base : Heap}
theorem fg_pairs_of {f : Addr} {fd : FuncData} {dV : Value} (T : FunV K "pairs_of" "pairs_of" s_pairs_of f fd dV) (D_counted_by : Df P w K mg base 2 "counted_by" 3 F_counted_by [] []) : FG P w K mg base 3 f fd ["book", "legs", "closed"] (spF K 3 F_pairs_of) := by
  have sc := sc_pairs_of
  exact fg_body 3 5 T sc rfl rfl fun cdv A outer s H E room gd => ⟨_,
    (db_cons (ds_set sc.nd (de_lst da_nil))
    (db_cons (ds_for rfl (di_any (de_orV (de_call D_counted_by room gd (da_cons (de_var 0) (da_cons (de_var 1) (da_cons (de_var 2) da_nil)))) (de_one (de_lst da_nil)))) (dg_name sc.nd) (db_one (ds_augA (i := 3) sc.nd (de_var 4))))
    (db_one (ds_ret (de_var 3)))))⟩
end
abbrev s_counted : Stmt := top 10
theorem sc_counted : FnScope ["book", "legs", "closed", "leg", "section"] ["book", "legs", "closed"] (defScope s_counted) := ⟨rfl, rfl, rfl, by decide +kernel, rfl, by decide +kernel, by decide +kernel⟩
section
variable {P : Program} {w : World} {K : PySem.W.Frag} {mg : Str → Option Value} {base : Heap}
theorem fg_counted {f : Addr} {fd : FuncData} {dV : Value} (T : FunV K "counted" "counted" s_counted f fd dV) (D_pairs_of : Df P w K mg base 3 "pairs_of" 3 F_pairs_of [] []) : FG P w K mg base 4 f fd ["book", "legs", "closed"] (spF K 3 F_counted) := by
  have sc := sc_counted
  exact fg_body 3 5 T sc rfl rfl fun cdv A outer s H E room gd => ⟨_,
    (db_one (ds_ret (de_comp (g := (gTupS K 2 (gCons (gName 3) (gCons (gName 4) gNil)))) rfl sc.nd (di_any (de_call D_pairs_of room gd (da_cons (de_var 0) (da_cons (de_var 1) (da_cons (de_var 2) da_nil))))) (blkOk_by (own := [("leg", 3), ("section", 4)]) (by rfl)) (fun _ _ _ _ _ => by exact (dg_tup rfl (dgs_cons (by exact dg_name sc.nd) (dgs_cons (by exact dg_name sc.nd) dgs_nil)))) (fun _ _ _ _ _ => ⟨_, dts_nil⟩) (fun _ _ _ _ _ => ⟨_, (de_var 3)⟩))))⟩
end
abbrev s_passed : Stmt := top 11
theorem sc_passed : FnScope ["book", "legs", "closed", "found", "leg", "section", "number", "forth"] ["book", "legs", "closed"] (defScope s_passed) := ⟨rfl, rfl, rfl, by decide +kernel, rfl, by decide +kernel, by decide +kernel⟩
section
variable {P : Program} {w : World} {K : PySem.W.Frag} {mg : Str → Option Value} {base : Heap}
theorem fg_passed {f : Addr} {fd : FuncData} {dV : Value} (T : FunV K "passed" "passed" s_passed f fd dV) (D_pairs_of : Df P w K mg base 3 "pairs_of" 3 F_pairs_of [] []) (D_steps_of : Df P w K mg base 1 "steps_of" 1 F_steps_of [] []) : FG P w K mg base 4 f fd ["book", "legs", "closed"] (spF K 3 F_passed) := by
  have sc := sc_passed
  exact fg_body 3 8 T sc rfl rfl fun cdv A outer s H E room gd => ⟨_,
    (db_cons (ds_set sc.nd (de_lst da_nil))
    (db_cons (ds_for rfl (di_any (de_call D_pairs_of room gd (da_cons (de_var 0) (da_cons (de_var 1) (da_cons (de_var 2) da_nil))))) ((dg_tup rfl (dgs_cons (by exact dg_name sc.nd) (dgs_cons (by exact dg_name sc.nd) dgs_nil)))) (db_one (ds_extend (de_var 3) (de_comp (g := (gTupS K 2 (gCons (gName 6) (gCons (gName 7) gNil)))) rfl sc.nd (di_any (de_call D_steps_of room gd (da_cons (de_var 4) da_nil))) (blkOk_by (own := [("number", 6), ("forth", 7)]) (by rfl)) (fun _ _ _ _ _ => by exact (dg_tup rfl (dgs_cons (by exact dg_name sc.nd) (dgs_cons (by exact dg_name sc.nd) dgs_nil)))) (fun _ _ _ _ _ => ⟨_, dts_nil⟩) (fun _ _ _ _ _ => ⟨_, (de_tup (da_cons (de_ix (unit1_of room) (de_var 4) de_int) (da_cons (de_var 6) (da_cons (de_var 7) da_nil))))⟩)))))
    (db_one (ds_ret (de_var 3)))))⟩
end
abbrev s_sums_of : Stmt := top 12
theorem sc_sums_of : FnScope ["book", "legs", "closed", "length", "climb", "fall", "leg", "section", "more", "higher", "deeper"] ["book", "legs", "closed"] (defScope s_sums_of) := ⟨rfl, rfl, rfl, by decide +kernel, rfl, by decide +kernel, by decide +kernel⟩
section
variable {P : Program} {w : World} {K : PySem.W.Frag} {mg : Str → Option Value} {base : Heap}
theorem fg_sums_of {f : Addr} {fd : FuncData} {dV : Value} (T : FunV K "sums_of" "sums_of" s_sums_of f fd dV) (D_pairs_of : Df P w K mg base 3 "pairs_of" 3 F_pairs_of [] []) (D_measure : Df P w K mg base 2 "measure" 2 F_measure [] []) : FG P w K mg base 4 f fd ["book", "legs", "closed"] (spF K 3 F_sums_of) := by
  have sc := sc_sums_of
  exact fg_body 3 11 T sc rfl rfl fun cdv A outer s H E room gd => ⟨_,
    (db_cons (ds_asg (de_tup (da_cons de_int (da_cons de_int (da_cons de_int da_nil)))) ((dg_tup rfl (dgs_cons (by exact dg_name sc.nd) (dgs_cons (by exact dg_name sc.nd) (dgs_cons (by exact dg_name sc.nd) dgs_nil))))))
    (db_cons (ds_for rfl (di_any (de_call D_pairs_of room gd (da_cons (de_var 0) (da_cons (de_var 1) (da_cons (de_var 2) da_nil))))) ((dg_tup rfl (dgs_cons (by exact dg_name sc.nd) (dgs_cons (by exact dg_name sc.nd) dgs_nil)))) (db_cons (ds_asg (de_call D_measure room gd (da_cons (de_var 7) (da_cons (de_var 6) da_nil))) ((dg_tup rfl (dgs_cons (by exact dg_name sc.nd) (dgs_cons (by exact dg_name sc.nd) (dgs_cons (by exact dg_name sc.nd) dgs_nil))))))
    (db_cons (ds_augAdd (i := 3) sc.nd (de_var 8))
    (db_cons (ds_augAdd (i := 4) sc.nd (de_var 9))
    (db_one (ds_augAdd (i := 5) sc.nd (de_var 10)))))))
    (db_one (ds_ret (de_tup (da_cons (de_var 3) (da_cons (de_var 4) (da_cons (de_var 5) da_nil))))))))⟩
end
abbrev s__law_begin : Stmt := top 14
theorem sc__law_begin : FnScope ["_law_script"] ["_law_script"] (defScope s__law_begin) := ⟨rfl, rfl, rfl, by decide +kernel, rfl, by decide +kernel, by decide +kernel⟩
section
variable {P : Program} {w : World} {K : PySem.W.Frag} {mg : Str → Option Value} {base : Heap}
theorem fg__law_begin {f : Addr} {fd : FuncData} {dV : Value} (T : FunV K "_law_begin" "_law_begin" s__law_begin f fd dV) : FG P w K mg base 1 f fd ["_law_script"] (spF K 1 F__law_begin) := by
  have sc := sc__law_begin
  exact fg_body 1 1 T sc rfl rfl fun cdv A outer s H E room gd => ⟨_,
    (db_one (ds_ret (de_disp (dp_cons de_str (de_frz (de_add (de_var 0) (de_lst (da_cons de_int da_nil)))) (dp_cons de_str de_int (dp_cons de_str de_int (dp_cons de_str de_int dp_nil)))))))⟩
end
abbrev s__law_mixed : Stmt := top 15
theorem sc__law_mixed : FnScope ["_law_cell", "_law_k", "_law_number"] ["_law_cell", "_law_k"] (defScope s__law_mixed) := ⟨rfl, rfl, rfl, by decide +kernel, rfl, by decide +kernel, by decide +kernel⟩
section
variable {P : Program} {w : World} {K : PySem.W.Frag} {mg : Str → Option Value} {base : Heap}
theorem fg__law_mixed {f : Addr} {fd : FuncData} {dV : Value} (T : FunV K "_law_mixed" "_law_mixed" s__law_mixed f fd dV) : FG P w K mg base 1 f fd ["_law_cell", "_law_k"] (spF K 2 F__law_mixed) := by
  have sc := sc__law_mixed
  exact fg_body 2 3 T sc rfl rfl fun cdv A outer s H E room gd => ⟨_,
    (db_cons (ds_set sc.nd (de_mod (de_add (de_add (de_add (de_mod (de_var 0) de_int) (de_mulI (de_mulI de_int (de_var 1)) (de_var 1))) (de_mulI de_int (de_var 1))) de_int) de_int))
    (db_cons (ds_set sc.nd (de_mod (de_mulI (de_mod (de_mulI (de_var 2) (de_var 2)) de_int) (de_var 2)) de_int))
    (db_one (ds_ret (de_fdiv (de_mod (de_mulI (de_var 2) (de_add de_int (de_mulI de_int (de_mod (de_var 1) de_int)))) de_int) de_int)))))⟩
end
abbrev s__law_next : Stmt := top 16
theorem sc__law_next : FnScope ["_law_draw", "_law_many", "_law_found", "_law_cells", "_law_cell"] ["_law_draw", "_law_many"] (defScope s__law_next) := ⟨rfl, rfl, rfl, by decide +kernel, rfl, by decide +kernel, by decide +kernel⟩
section
variable {P : Program} {w : World} {K : PySem.W.Frag} {mg : Str → Option Value} {base : Heap}
theorem fg__law_next {f : Addr} {fd : FuncData} {dV : Value} (T : FunV K "_law_next" "_law_next" s__law_next f fd dV) (D__law_mixed : Df P w K mg base 1 "_law_mixed" 2 F__law_mixed [] []) (z_len : mg "len" = none) : FG P w K mg base 2 f fd ["_law_draw", "_law_many"] (spF K 2 F__law_next) := by
  have sc := sc__law_next
  exact fg_body 2 5 T sc rfl rfl fun cdv A outer s H E room gd => ⟨_,
    (db_cons (ds_if (dt_gt (de_ix (unit1_of room) (de_var 0) de_str) de_int) (db_cons (ds_set sc.nd (de_mod (de_ix (unit1_of room) (de_var 0) de_str) (de_var 1)))
    (db_cons (ds_store (unit1_of room) (de_fdiv (de_ix (unit1_of room) (de_var 0) de_str) (de_var 1)) (de_var 0) de_str)
    (db_one (ds_ret (de_var 2))))) db_nil)
    (db_cons (ds_set sc.nd (de_ix (unit1_of room) (de_var 0) de_str))
    (db_cons (ds_set sc.nd (de_ix (unit1_of room) (de_var 3) (de_mod (de_ix (unit1_of room) (de_var 0) de_str) (de_len z_len (da_cons (de_var 3) da_nil)))))
    (db_cons (ds_store (unit1_of room) (de_add (de_ix (unit1_of room) (de_var 0) de_str) de_int) (de_var 0) de_str)
    (db_cons (ds_if (DW.dt (dw_and (dt_ge (de_var 4) (de_pow de_int de_int)) (dw_and1 (dt_le (de_ix (unit1_of room) (de_var 0) de_str) (de_len z_len (da_cons (de_var 3) da_nil)))))) (db_cons (ds_store (unit1_of room) (de_fdiv (de_var 4) (de_var 1)) (de_var 0) de_str)
    (db_one (ds_ret (de_mod (de_var 4) (de_var 1))))) db_nil)
    (db_cons (ds_store (unit1_of room) (de_add (de_ix (unit1_of room) (de_var 0) de_str) de_int) (de_var 0) de_str)
    (db_one (ds_ret (de_mod (de_call D__law_mixed room gd (da_cons (de_call D__law_mixed room gd (da_cons (de_var 4) (da_cons (de_ix (unit1_of room) (de_var 0) de_str) da_nil))) (da_cons (de_ix (unit1_of room) (de_var 0) de_str) da_nil))) (de_var 1))))))))))⟩
end
abbrev s__law_words : Stmt := top 17
theorem sc__law_words : FnScope ["_law_draw", "_law_many", "_law_letters", "_law_found", "_law_size", "_law_word", "_law_words_here", "_law_rest", "_law_k", "_law_one"] ["_law_draw", "_law_many"] (defScope s__law_words) := ⟨rfl, rfl, rfl, by decide +kernel, rfl, by decide +kernel, by decide +kernel⟩
section
variable {P : Program} {w : World} {K : PySem.W.Frag} {mg : Str → Option Value} {base : Heap}
theorem fg__law_words {f : Addr} {fd : FuncData} {dV : Value} (T : FunV K "_law_words" "_law_words" s__law_words f fd dV) (D__law_next : Df P w K mg base 2 "_law_next" 2 F__law_next [] []) (z_len : mg "len" = none) (z_range : mg "range" = none) : FG P w K mg base 3 f fd ["_law_draw", "_law_many"] (spF K 2 F__law_words) := by
  have sc := sc__law_words
  exact fg_body 2 10 T sc rfl rfl fun cdv A outer s H E room gd => ⟨_,
    (db_cons (ds_set sc.nd de_str)
    (db_cons (ds_set sc.nd (de_lst da_nil))
    (db_cons (ds_while (dt_lt (de_len z_len (da_cons (de_var 3) da_nil)) (de_var 1)) (db_cons (ds_set sc.nd (de_ix (unit1_of room) (de_lst (da_cons (de_add de_int (de_call D__law_next room gd (da_cons (de_var 0) (da_cons de_int da_nil)))) (da_cons (de_add de_int (de_call D__law_next room gd (da_cons (de_var 0) (da_cons de_int da_nil)))) (da_cons de_int da_nil)))) (de_call D__law_next room gd (da_cons (de_var 0) (da_cons de_int da_nil)))))
    (db_cons (ds_set sc.nd (de_join de_str (de_comp rfl sc.nd (di_range1 z_range (da_cons (de_var 4) da_nil)) (blkOk_by (own := [("_law_k", 8)]) (by rfl)) (fun _ _ _ _ _ => by exact dg_name sc.nd) (fun _ _ _ _ _ => ⟨_, dts_nil⟩) (fun _ _ _ _ _ => ⟨_, (de_ix (unit1_of room) (de_var 2) (de_call D__law_next room gd (da_cons (de_var 0) (da_cons de_int da_nil))))⟩))))
    (db_cons (ds_if (dt_eq (units_of room) (de_call D__law_next room gd (da_cons (de_var 0) (da_cons de_int da_nil))) de_int) (db_cons (ds_set sc.nd (de_split de_str de_str))
    (db_one (ds_set sc.nd (de_ix (unit1_of room) (de_var 6) (de_call D__law_next room gd (da_cons (de_var 0) (da_cons de_int da_nil))))))) db_nil)
    (db_cons (ds_if (dt_in (units_of room) (de_var 5) (de_var 3)) (db_cons (ds_setComp rfl sc.nd (di_range1 z_range (da_cons de_int da_nil)) (blkOk_by (own := [("_law_k", 8)]) (by rfl)) (fun _ _ _ _ _ => by exact dg_name sc.nd) (fun _ _ _ _ _ => ⟨_, dts_nil⟩) (fun _ _ _ _ _ => ⟨_, (de_add (de_ix (unit1_of room) (de_var 2) (de_fdiv (de_var 8) de_int)) (de_ix (unit1_of room) (de_var 2) (de_mod (de_var 8) de_int)))⟩))
    (db_one (ds_set sc.nd (de_ix (unit1_of room) (de_comp rfl sc.nd (di_any (de_var 7)) (blkOk_by (own := [("_law_one", 9)]) (by rfl)) (fun _ _ _ _ _ => by exact dg_name sc.nd) (fun _ _ _ _ _ => ⟨_, (dts_one (dt_notIn (units_of room) (de_var 9) (de_var 3)))⟩) (fun _ _ _ _ _ => ⟨_, (de_var 9)⟩)) (de_call D__law_next room gd (da_cons (de_var 0) (da_cons de_int da_nil))))))) db_nil)
    (db_one (ds_append (de_var 3) (de_var 5))))))))
    (db_one (ds_ret (de_var 3))))))⟩
end
abbrev s__law_stretch : Stmt := top 18
theorem sc__law_stretch : FnScope ["_law_draw", "_law_way"] ["_law_draw"] (defScope s__law_stretch) := ⟨rfl, rfl, rfl, by decide +kernel, rfl, by decide +kernel, by decide +kernel⟩
section
variable {P : Program} {w : World} {K : PySem.W.Frag} {mg : Str → Option Value} {base : Heap}
theorem fg__law_stretch {f : Addr} {fd : FuncData} {dV : Value} (T : FunV K "_law_stretch" "_law_stretch" s__law_stretch f fd dV) (D__law_next : Df P w K mg base 2 "_law_next" 2 F__law_next [] []) : FG P w K mg base 3 f fd ["_law_draw"] (spF K 1 F__law_stretch) := by
  have sc := sc__law_stretch
  exact fg_body 1 2 T sc rfl rfl fun cdv A outer s H E room gd => ⟨_,
    (db_cons (ds_set sc.nd (de_call D__law_next room gd (da_cons (de_var 0) (da_cons de_int da_nil))))
    (db_cons (ds_if (dt_eq (units_of room) (de_var 1) de_int) (db_one (ds_ret (de_tup (da_cons (de_add de_int (de_call D__law_next room gd (da_cons (de_var 0) (da_cons de_int da_nil)))) (da_cons (de_call D__law_next room gd (da_cons (de_var 0) (da_cons de_int da_nil))) (da_cons (de_call D__law_next room gd (da_cons (de_var 0) (da_cons de_int da_nil))) da_nil)))))) db_nil)
    (db_cons (ds_if (dt_eq (units_of room) (de_var 1) de_int) (db_one (ds_ret (de_tup (da_cons de_int (da_cons de_int (da_cons (de_call D__law_next room gd (da_cons (de_var 0) (da_cons de_int da_nil))) da_nil)))))) db_nil)
    (db_cons (ds_if (dt_eq (units_of room) (de_var 1) de_int) (db_one (ds_ret (de_tup (da_cons de_int (da_cons de_int (da_cons (de_mulI de_int (de_call D__law_next room gd (da_cons (de_var 0) (da_cons de_int da_nil)))) da_nil)))))) db_nil)
    (db_one (ds_ret (de_tup (da_cons (de_add de_int (de_call D__law_next room gd (da_cons (de_var 0) (da_cons de_int da_nil)))) (da_cons (de_call D__law_next room gd (da_cons (de_var 0) (da_cons de_int da_nil))) (da_cons (de_call D__law_next room gd (da_cons (de_var 0) (da_cons de_int da_nil))) da_nil))))))))))⟩
end
abbrev s__law_section : Stmt := top 19
theorem sc__law_section : FnScope ["_law_draw", "_law_name", "_law_pool", "_law_many", "_law_marks", "_law_ways", "_law_rest", "_law_one", "_law_k"] ["_law_draw", "_law_name", "_law_pool"] (defScope s__law_section) := ⟨rfl, rfl, rfl, by decide +kernel, rfl, by decide +kernel, by decide +kernel⟩
section
variable {P : Program} {w : World} {K : PySem.W.Frag} {mg : Str → Option Value} {base : Heap}
theorem fg__law_section {f : Addr} {fd : FuncData} {dV : Value} (T : FunV K "_law_section" "_law_section" s__law_section f fd dV) (D__law_next : Df P w K mg base 2 "_law_next" 2 F__law_next [] []) (D__law_stretch : Df P w K mg base 3 "_law_stretch" 1 F__law_stretch [] []) (z_len : mg "len" = none) (z_tuple : mg "tuple" = none) (z_range : mg "range" = none) : FG P w K mg base 4 f fd ["_law_draw", "_law_name", "_law_pool"] (spF K 3 F__law_section) := by
  have sc := sc__law_section
  exact fg_body 3 9 T sc rfl rfl fun cdv A outer s H E room gd => ⟨_,
    (db_cons (ds_set sc.nd (de_ix (unit1_of room) (de_lst (da_cons (de_add de_int (de_call D__law_next room gd (da_cons (de_var 0) (da_cons de_int da_nil)))) (da_cons (de_add de_int (de_call D__law_next room gd (da_cons (de_var 0) (da_cons de_int da_nil)))) (da_cons de_int da_nil)))) (de_call D__law_next room gd (da_cons (de_var 0) (da_cons de_int da_nil)))))
    (db_cons (ds_parT rfl (da_cons (de_lst (da_cons (de_ix (unit1_of room) (de_var 2) (de_call D__law_next room gd (da_cons (de_var 0) (da_cons (de_len z_len (da_cons (de_var 2) da_nil)) da_nil)))) da_nil)) (da_cons (de_lst da_nil) (da_cons (de_var 2) da_nil))) (dn_cons (i := 4) sc.nd (dn_cons (i := 5) sc.nd (dn_cons (i := 6) sc.nd .nil))))
    (db_cons (ds_while (DW.dt (dw_and (dt_lt (de_len z_len (da_cons (de_var 4) da_nil)) (de_var 3)) (dw_and1 (dt_ne (units_of room) (de_var 6) (de_lst da_nil))))) (db_cons (ds_setComp rfl sc.nd (di_any (de_var 2)) (blkOk_by (own := [("_law_one", 7)]) (by rfl)) (fun _ _ _ _ _ => by exact dg_name sc.nd) (fun _ _ _ _ _ => ⟨_, (dts_one (DW.dt (dw_and (dt_ne (units_of room) (de_var 7) (de_ix (unit1_of room) (de_var 4) (de_neg de_int))) (dw_and1 (dt_notIn (units_of room) (de_tup (da_cons (de_ix (unit1_of room) (de_var 4) (de_neg de_int)) (da_cons (de_var 7) da_nil))) (de_var 5))))))⟩) (fun _ _ _ _ _ => ⟨_, (de_var 7)⟩))
    (db_one (ds_if (dt_ne (units_of room) (de_var 6) (de_lst da_nil)) (db_cons (ds_append (de_var 4) (de_ix (unit1_of room) (de_var 6) (de_call D__law_next room gd (da_cons (de_var 0) (da_cons (de_len z_len (da_cons (de_var 6) da_nil)) da_nil)))))
    (db_one (ds_set sc.nd (de_add (de_var 5) (de_lst (da_cons (de_tup (da_cons (de_ix (unit1_of room) (de_var 4) (de_neg de_int)) (da_cons (de_ix (unit1_of room) (de_var 4) (de_neg de_int)) da_nil))) (da_cons (de_tup (da_cons (de_ix (unit1_of room) (de_var 4) (de_neg de_int)) (da_cons (de_ix (unit1_of room) (de_var 4) (de_neg de_int)) da_nil))) da_nil))))))) db_nil))))
    (db_one (ds_ret (de_tup (da_cons (de_var 1) (da_cons (de_tuple z_tuple (da_cons (de_var 4) da_nil)) (da_cons (de_tuple z_tuple (da_cons (de_comp rfl sc.nd (di_range1 z_range (da_cons (de_sub (de_len z_len (da_cons (de_var 4) da_nil)) de_int) da_nil)) (blkOk_by (own := [("_law_k", 8)]) (by rfl)) (fun _ _ _ _ _ => by exact dg_name sc.nd) (fun _ _ _ _ _ => ⟨_, dts_nil⟩) (fun _ _ _ _ _ => ⟨_, (de_call D__law_stretch room gd (da_cons (de_var 0) da_nil))⟩)) da_nil)) da_nil)))))))))⟩
end
abbrev s__law_book : Stmt := top 20
theorem sc__law_book : FnScope ["_law_draw", "_law_most", "_law_names", "_law_pool", "_law_sections", "_law_used", "_law_halts", "_law_besides", "_law_badges", "_law_mark", "_law_name", "_law_one"] ["_law_draw", "_law_most"] (defScope s__law_book) := ⟨rfl, rfl, rfl, by decide +kernel, rfl, by decide +kernel, by decide +kernel⟩
section
variable {P : Program} {w : World} {K : PySem.W.Frag} {mg : Str → Option Value} {base : Heap}
theorem fg__law_book {f : Addr} {fd : FuncData} {dV : Value} (T : FunV K "_law_book" "_law_book" s__law_book f fd dV) (D__law_next : Df P w K mg base 2 "_law_next" 2 F__law_next [] []) (D__law_words : Df P w K mg base 3 "_law_words" 2 F__law_words [] []) (D__law_section : Df P w K mg base 4 "_law_section" 3 F__law_section [] []) (z_tuple : mg "tuple" = none) (z_sorted : mg "sorted" = none) (z_any : mg "any" = none) (z_len : mg "len" = none) : FG P w K mg base 5 f fd ["_law_draw", "_law_most"] (spF K 2 F__law_book) := by
  have sc := sc__law_book
  exact fg_body 2 12 T sc rfl rfl fun cdv A outer s H E room gd => ⟨_,
    (db_cons (ds_parT rfl (da_cons (de_frz (de_call D__law_words room gd (da_cons (de_var 0) (da_cons (de_add de_int (de_call D__law_next room gd (da_cons (de_var 0) (da_cons (de_var 1) da_nil)))) da_nil)))) (da_cons (de_frz (de_call D__law_words room gd (da_cons (de_var 0) (da_cons (de_add de_int (de_call D__law_next room gd (da_cons (de_var 0) (da_cons de_int da_nil)))) da_nil)))) da_nil)) (dn_cons (i := 2) sc.nd (dn_cons (i := 3) sc.nd .nil)))
    (db_cons (ds_set sc.nd (de_frz (de_tuple z_tuple (da_cons (de_comp rfl sc.nd (di_any (de_var 2)) (blkOk_by (own := [("_law_name", 10)]) (by rfl)) (fun _ _ _ _ _ => by exact dg_name sc.nd) (fun _ _ _ _ _ => ⟨_, dts_nil⟩) (fun _ _ _ _ _ => ⟨_, (de_call D__law_section room gd (da_cons (de_var 0) (da_cons (de_var 10) (da_cons (de_var 3) da_nil))))⟩)) da_nil))))
    (db_cons (ds_setCompF rfl sc.nd (di_any (de_sortS z_sorted (da_cons (de_var 3) da_nil))) (blkOk_by (own := [("_law_mark", 9)]) (by rfl)) (fun _ _ _ _ _ => by exact dg_name sc.nd) (fun _ _ _ _ _ => ⟨_, (dts_one (dt_truth (de_any rfl z_any (da_cons (de_comp rfl sc.nd (di_any (de_var 4)) (blkOk_by (own := [("_law_one", 11)]) (by rfl)) (fun _ _ _ _ _ => by exact dg_name sc.nd) (fun _ _ _ _ _ => ⟨_, dts_nil⟩) (fun _ _ _ _ _ => ⟨_, (de_in (units_of room) (de_var 9) (de_ix (unit1_of room) (de_var 11) de_int))⟩)) da_nil))))⟩) (fun _ _ _ _ _ => ⟨_, (de_var 9)⟩))
    (db_cons (ds_set sc.nd (de_frz (de_tuple z_tuple (da_cons (de_comp rfl sc.nd (di_any (de_var 5)) (blkOk_by (own := [("_law_mark", 9)]) (by rfl)) (fun _ _ _ _ _ => by exact dg_name sc.nd) (fun _ _ _ _ _ => ⟨_, (dts_one (dt_eq (units_of room) (de_call D__law_next room gd (da_cons (de_var 0) (da_cons de_int da_nil))) de_int))⟩) (fun _ _ _ _ _ => ⟨_, (de_var 9)⟩)) da_nil))))
    (db_cons (ds_set sc.nd (de_frz (de_ifE (DW.dt (dw_and (dt_gt (de_len z_len (da_cons (de_var 2) da_nil)) de_int) (dw_and1 (dt_eq (units_of room) (de_call D__law_next room gd (da_cons (de_var 0) (da_cons de_int da_nil))) de_int)))) (de_tup (da_cons (de_tuple z_tuple (da_cons (de_sl (de_var 2) .non (.som de_int)) da_nil)) da_nil)) (de_tup da_nil))))
    (db_cons (ds_set sc.nd (de_frz (de_ifE (dt_eq (units_of room) (de_call D__law_next room gd (da_cons (de_var 0) (da_cons de_int da_nil))) de_int) (de_tup (da_cons (de_tup (da_cons de_str (da_cons de_str (da_cons (de_add de_int (de_call D__law_next room gd (da_cons (de_var 0) (da_cons de_int da_nil)))) da_nil)))) da_nil)) (de_tup da_nil))))
    (db_one (ds_ret (de_tup (da_cons (de_var 4) (da_cons (de_var 6) (da_cons (de_var 7) (da_cons (de_var 8) da_nil)))))))))))))⟩
end
abbrev s__law_leg : Stmt := top 21
theorem sc__law_leg : FnScope ["_law_draw", "_law_book_here", "_law_way", "_law_name", "_law_marks", "_law_rows", "_law_many", "_law_first", "_law_last"] ["_law_draw", "_law_book_here"] (defScope s__law_leg) := ⟨rfl, rfl, rfl, by decide +kernel, rfl, by decide +kernel, by decide +kernel⟩
section
variable {P : Program} {w : World} {K : PySem.W.Frag} {mg : Str → Option Value} {base : Heap}
theorem fg__law_leg {f : Addr} {fd : FuncData} {dV : Value} (T : FunV K "_law_leg" "_law_leg" s__law_leg f fd dV) (D__law_next : Df P w K mg base 2 "_law_next" 2 F__law_next [] []) (D__law_words : Df P w K mg base 3 "_law_words" 2 F__law_words [] []) (z_len : mg "len" = none) : FG P w K mg base 4 f fd ["_law_draw", "_law_book_here"] (spF K 2 F__law_leg) := by
  have sc := sc__law_leg
  exact fg_body 2 9 T sc rfl rfl fun cdv A outer s H E room gd => ⟨_,
    (db_cons (ds_asg (de_tup (da_cons (de_call D__law_next room gd (da_cons (de_var 0) (da_cons de_int da_nil))) (da_cons (de_ix (unit1_of room) (de_ix (unit1_of room) (de_var 1) de_int) (de_call D__law_next room gd (da_cons (de_var 0) (da_cons (de_len z_len (da_cons (de_ix (unit1_of room) (de_var 1) de_int) da_nil)) da_nil)))) da_nil))) ((dg_tup rfl (dgs_cons (by exact dg_name sc.nd) (dgs_cons (by exact (dg_tup rfl (dgs_cons (by exact dg_name sc.nd) (dgs_cons (by exact dg_name sc.nd) (dgs_cons (by exact dg_name sc.nd) dgs_nil))))) dgs_nil)))))
    (db_cons (ds_set sc.nd (de_frz (de_ifE (dt_lt (de_var 2) de_int) de_int (de_len z_len (da_cons (de_var 4) da_nil)))))
    (db_cons (ds_par2 (i := 7) (j := 8) rfl sc.nd (da_cons (de_frz (de_call D__law_next room gd (da_cons (de_var 0) (da_cons (de_var 6) da_nil)))) (da_cons (de_frz (de_call D__law_next room gd (da_cons (de_var 0) (da_cons (de_sub (de_var 6) de_int) da_nil)))) da_nil)))
    (db_one (ds_ret (de_tup (da_cons (de_ifE (dt_eq (units_of room) (de_var 2) de_int) (de_ix (unit1_of room) (de_call D__law_words room gd (da_cons (de_var 0) (da_cons de_int da_nil))) de_int) (de_var 3)) (da_cons (de_var 7) (da_cons (de_ifE (dt_lt (de_var 8) (de_var 7)) (de_var 8) (de_add (de_var 8) de_int)) da_nil)))))))))⟩
end
abbrev s__law_end : Stmt := top 22
theorem sc__law_end : FnScope ["_law_book_here", "_law_leg_here", "_law_name", "_law_marks", "_law_rows"] ["_law_book_here", "_law_leg_here"] (defScope s__law_end) := ⟨rfl, rfl, rfl, by decide +kernel, rfl, by decide +kernel, by decide +kernel⟩
section
variable {P : Program} {w : World} {K : PySem.W.Frag} {mg : Str → Option Value} {base : Heap}
theorem fg__law_end {f : Addr} {fd : FuncData} {dV : Value} (T : FunV K "_law_end" "_law_end" s__law_end f fd dV) (z_max : mg "max" = none) (z_len : mg "len" = none) : FG P w K mg base 1 f fd ["_law_book_here", "_law_leg_here"] (spF K 2 F__law_end) := by
  have sc := sc__law_end
  exact fg_body 2 5 T sc rfl rfl fun cdv A outer s H E room gd => ⟨_,
    (db_cons (ds_for rfl (di_any (de_ix (unit1_of room) (de_var 0) de_int)) ((dg_tup rfl (dgs_cons (by exact dg_name sc.nd) (dgs_cons (by exact dg_name sc.nd) (dgs_cons (by exact dg_name sc.nd) dgs_nil))))) (db_one (ds_if (DW.dt (dw_and (dt_eq (units_of room) (de_var 2) (de_ix (unit1_of room) (de_var 1) de_int)) (dw_and1 (dt_lt (de_max2 rfl z_max (da_cons (de_ix (unit1_of room) (de_var 1) de_int) (da_cons (de_ix (unit1_of room) (de_var 1) de_int) da_nil))) (de_len z_len (da_cons (de_var 3) da_nil)))))) (db_one (ds_ret (de_ix (unit1_of room) (de_var 3) (de_ix (unit1_of room) (de_var 1) de_int)))) db_nil)))
    (db_one (ds_ret de_str)))⟩
end
abbrev s__law_on : Stmt := top 23
theorem sc__law_on : FnScope ["_law_draw", "_law_book_here", "_law_here", "_law_found", "_law_name", "_law_marks", "_law_rows", "_law_first", "_law_many", "_law_last", "_law_at", "_law_mark"] ["_law_draw", "_law_book_here", "_law_here"] (defScope s__law_on) := ⟨rfl, rfl, rfl, by decide +kernel, rfl, by decide +kernel, by decide +kernel⟩
section
variable {P : Program} {w : World} {K : PySem.W.Frag} {mg : Str → Option Value} {base : Heap}
theorem fg__law_on {f : Addr} {fd : FuncData} {dV : Value} (T : FunV K "_law_on" "_law_on" s__law_on f fd dV) (D__law_next : Df P w K mg base 2 "_law_next" 2 F__law_next [] []) (z_enumerate : mg "enumerate" = none) (z_len : mg "len" = none) : FG P w K mg base 3 f fd ["_law_draw", "_law_book_here", "_law_here"] (spF K 3 F__law_on) := by
  have sc := sc__law_on
  exact fg_body 3 12 T sc rfl rfl fun cdv A outer s H E room gd => ⟨_,
    (db_cons (ds_set sc.nd (de_lst da_nil))
    (db_cons (ds_for rfl (di_any (de_ix (unit1_of room) (de_var 1) de_int)) ((dg_tup rfl (dgs_cons (by exact dg_name sc.nd) (dgs_cons (by exact dg_name sc.nd) (dgs_cons (by exact dg_name sc.nd) dgs_nil))))) (db_one (ds_extend (de_var 3) (de_comp (g := (gTupS K 2 (gCons (gName 10) (gCons (gName 11) gNil)))) rfl sc.nd (di_enum z_enumerate (da_cons (de_var 5) da_nil)) (blkOk_by (own := [("_law_at", 10), ("_law_mark", 11)]) (by rfl)) (fun _ _ _ _ _ => by exact (dg_tup rfl (dgs_cons (by exact dg_name sc.nd) (dgs_cons (by exact dg_name sc.nd) dgs_nil)))) (fun _ _ _ _ _ => ⟨_, (dts_one (dt_eq (units_of room) (de_var 11) (de_var 2)))⟩) (fun _ _ _ _ _ => ⟨_, (de_tup (da_cons (de_var 4) (da_cons (de_var 10) (da_cons (de_len z_len (da_cons (de_var 5) da_nil)) da_nil))))⟩)))))
    (db_cons (ds_asg (de_ix (unit1_of room) (de_var 3) (de_call D__law_next room gd (da_cons (de_var 0) (da_cons (de_len z_len (da_cons (de_var 3) da_nil)) da_nil)))) ((dg_tup rfl (dgs_cons (by exact dg_name sc.nd) (dgs_cons (by exact dg_name sc.nd) (dgs_cons (by exact dg_name sc.nd) dgs_nil))))))
    (db_cons (ds_set sc.nd (de_frz (de_call D__law_next room gd (da_cons (de_var 0) (da_cons (de_sub (de_var 8) de_int) da_nil)))))
    (db_one (ds_ret (de_tup (da_cons (de_var 4) (da_cons (de_var 7) (da_cons (de_ifE (dt_lt (de_var 9) (de_var 7)) (de_var 9) (de_add (de_var 9) de_int)) da_nil))))))))))⟩
end
abbrev s__law_legs : Stmt := top 24
theorem sc__law_legs : FnScope ["_law_draw", "_law_book_here", "_law_many", "_law_found", "_law_loose", "_law_here", "_law_way"] ["_law_draw", "_law_book_here", "_law_many"] (defScope s__law_legs) := ⟨rfl, rfl, rfl, by decide +kernel, rfl, by decide +kernel, by decide +kernel⟩
section
variable {P : Program} {w : World} {K : PySem.W.Frag} {mg : Str → Option Value} {base : Heap}
theorem fg__law_legs {f : Addr} {fd : FuncData} {dV : Value} (T : FunV K "_law_legs" "_law_legs" s__law_legs f fd dV) (D__law_next : Df P w K mg base 2 "_law_next" 2 F__law_next [] []) (D__law_leg : Df P w K mg base 4 "_law_leg" 2 F__law_leg [] []) (D__law_end : Df P w K mg base 1 "_law_end" 2 F__law_end [] []) (D__law_on : Df P w K mg base 3 "_law_on" 3 F__law_on [] []) (z_len : mg "len" = none) (z_tuple : mg "tuple" = none) : FG P w K mg base 5 f fd ["_law_draw", "_law_book_here", "_law_many"] (spF K 3 F__law_legs) := by
  have sc := sc__law_legs
  exact fg_body 3 7 T sc rfl rfl fun cdv A outer s H E room gd => ⟨_,
    (db_cons (ds_par2 (i := 3) (j := 4) rfl sc.nd (da_cons (de_lst (da_cons (de_call D__law_leg room gd (da_cons (de_var 0) (da_cons (de_var 1) da_nil))) da_nil)) (da_cons (de_frz (de_eq (units_of room) (de_call D__law_next room gd (da_cons (de_var 0) (da_cons de_int da_nil))) de_int)) da_nil)))
    (db_cons (ds_while (dt_lt (de_len z_len (da_cons (de_var 3) da_nil)) (de_var 2)) (db_cons (ds_par2 (i := 5) (j := 6) rfl sc.nd (da_cons (de_frz (de_call D__law_end room gd (da_cons (de_var 1) (da_cons (de_ix (unit1_of room) (de_var 3) (de_neg de_int)) da_nil)))) (da_cons (de_frz (de_call D__law_next room gd (da_cons (de_var 0) (da_cons de_int da_nil)))) da_nil)))
    (db_one (ds_if (DW.dt (dw_and (dt_lt (de_var 6) de_int) (dw_and1 (dt_le (de_add (de_len z_len (da_cons (de_var 3) da_nil)) de_int) (de_var 2))))) (db_cons (ds_append (de_var 3) (de_tup (da_cons de_str da_nil)))
    (db_one (ds_append (de_var 3) (de_call D__law_leg room gd (da_cons (de_var 0) (da_cons (de_var 1) da_nil)))))) (db_one (ds_if (DW.dt (dw_or (dt_eq (units_of room) (de_var 5) de_str) (dw_or1 (DW.dt (dw_and (dt_truth (de_var 4)) (dw_and1 (dt_eq (units_of room) (de_var 6) de_int))))))) (db_one (ds_append (de_var 3) (de_call D__law_leg room gd (da_cons (de_var 0) (da_cons (de_var 1) da_nil))))) (db_one (ds_append (de_var 3) (de_call D__law_on room gd (da_cons (de_var 0) (da_cons (de_var 1) (da_cons (de_var 5) da_nil))))))))))))
    (db_one (ds_ret (de_tuple z_tuple (da_cons (de_var 3) da_nil))))))⟩
end
abbrev s__law_cut : Stmt := top 25
theorem sc__law_cut : FnScope ["_law_draw", "_law_legs_here", "_law_many", "_law_some", "_law_time", "_law_at", "_law_one", "_law_mark"] ["_law_draw", "_law_legs_here", "_law_many"] (defScope s__law_cut) := ⟨rfl, rfl, rfl, by decide +kernel, rfl, by decide +kernel, by decide +kernel⟩
section
variable {P : Program} {w : World} {K : PySem.W.Frag} {mg : Str → Option Value} {base : Heap}
theorem fg__law_cut {f : Addr} {fd : FuncData} {dV : Value} (T : FunV K "_law_cut" "_law_cut" s__law_cut f fd dV) (D__law_next : Df P w K mg base 2 "_law_next" 2 F__law_next [] []) (z_list : mg "list" = none) (z_range : mg "range" = none) (z_len : mg "len" = none) (z_abs : mg "abs" = none) (z_min : mg "min" = none) (z_tuple : mg "tuple" = none) : FG P w K mg base 3 f fd ["_law_draw", "_law_legs_here", "_law_many"] (spF K 3 F__law_cut) := by
  have sc := sc__law_cut
  exact fg_body 3 8 T sc rfl rfl fun cdv A outer s H E room gd => ⟨_,
    (db_cons (ds_set sc.nd (de_frz (de_list z_list (da_cons (de_var 1) da_nil))))
    (db_cons (ds_for rfl (di_range1 z_range (da_cons (de_var 2) da_nil)) (dg_name sc.nd) (db_cons (ds_set sc.nd (de_frz (de_call D__law_next room gd (da_cons (de_var 0) (da_cons (de_len z_len (da_cons (de_var 3) da_nil)) da_nil)))))
    (db_cons (ds_set sc.nd (de_frz (de_ix (unit1_of room) (de_var 3) (de_var 5))))
    (db_one (ds_if (DW.dt (dw_and (dt_eq (units_of room) (de_len z_len (da_cons (de_var 6) da_nil)) de_int) (dw_and (dt_gt (de_abs z_abs (da_cons (de_sub (de_ix (unit1_of room) (de_var 6) de_int) (de_ix (unit1_of room) (de_var 6) de_int)) da_nil)) de_int) (dw_and1 (dt_lt (de_len z_len (da_cons (de_var 3) da_nil)) de_int))))) (db_cons (ds_set sc.nd (de_frz (de_add (de_add (de_min2 rfl z_min (da_cons (de_ix (unit1_of room) (de_var 6) de_int) (da_cons (de_ix (unit1_of room) (de_var 6) de_int) da_nil))) de_int) (de_call D__law_next room gd (da_cons (de_var 0) (da_cons (de_sub (de_abs z_abs (da_cons (de_sub (de_ix (unit1_of room) (de_var 6) de_int) (de_ix (unit1_of room) (de_var 6) de_int)) da_nil)) de_int) da_nil))))))
    (db_one (ds_set sc.nd (de_frz (de_add (de_add (de_sl (de_var 3) .non (.som (de_var 5))) (de_lst (da_cons (de_tup (da_cons (de_ix (unit1_of room) (de_var 6) de_int) (da_cons (de_ix (unit1_of room) (de_var 6) de_int) (da_cons (de_var 7) da_nil)))) (da_cons (de_tup (da_cons (de_ix (unit1_of room) (de_var 6) de_int) (da_cons (de_var 7) (da_cons (de_ix (unit1_of room) (de_var 6) de_int) da_nil)))) da_nil)))) (de_sl (de_var 3) (.som (de_add (de_var 5) de_int)) .non)))))) db_nil)))))
    (db_one (ds_ret (de_tuple z_tuple (da_cons (de_var 3) da_nil))))))⟩
end
abbrev s__law_one_by_one : Stmt := top 26
theorem sc__law_one_by_one : FnScope ["_law_legs_here", "_law_found", "_law_one", "_law_way", "_law_at"] ["_law_legs_here"] (defScope s__law_one_by_one) := ⟨rfl, rfl, rfl, by decide +kernel, rfl, by decide +kernel, by decide +kernel⟩
section
variable {P : Program} {w : World} {K : PySem.W.Frag} {mg : Str → Option Value} {base : Heap}
theorem fg__law_one_by_one {f : Addr} {fd : FuncData} {dV : Value} (T : FunV K "_law_one_by_one" "_law_one_by_one" s__law_one_by_one f fd dV) (z_len : mg "len" = none) (z_range : mg "range" = none) : FG P w K mg base 1 f fd ["_law_legs_here"] (spF K 1 F__law_one_by_one_ab0) := by
  have sc := sc__law_one_by_one
  exact fg_body 1 5 T sc rfl rfl fun cdv A outer s H E room gd => ⟨_,
    (db_cons (ds_set sc.nd (de_lst da_nil))
    (db_cons (ds_for rfl (di_any (de_var 0)) (dg_name sc.nd) (db_one (ds_if (dt_eq (units_of room) (de_len z_len (da_cons (de_var 2) da_nil)) de_int) (db_one (ds_append (de_var 1) (de_var 2))) (db_cons (ds_set sc.nd (de_frz (de_ifE (dt_lt (de_ix (unit1_of room) (de_var 2) de_int) (de_ix (unit1_of room) (de_var 2) de_int)) de_int (de_neg de_int))))
    (db_one (ds_extend (de_var 1) (de_comp rfl sc.nd (di_range3 z_range (da_cons (de_ix (unit1_of room) (de_var 2) de_int) (da_cons (de_ix (unit1_of room) (de_var 2) de_int) (da_cons (de_var 3) da_nil)))) (blkOk_by (own := [("_law_at", 4)]) (by rfl)) (fun _ _ _ _ _ => by exact dg_name sc.nd) (fun _ _ _ _ _ => ⟨_, dts_nil⟩) (fun _ _ _ _ _ => ⟨_, (de_tup (da_cons (de_ix (unit1_of room) (de_var 2) de_int) (da_cons (de_var 4) (da_cons (de_add (de_var 4) (de_var 3)) da_nil))))⟩))))))))
    (db_one (ds_ret (de_var 1)))))⟩
end
abbrev s__law_could_be_one : Stmt := top 27
theorem sc__law_could_be_one : FnScope ["_law_legs_here", "_law_one", "_law_other"] ["_law_legs_here"] (defScope s__law_could_be_one) := ⟨rfl, rfl, rfl, by decide +kernel, rfl, by decide +kernel, by decide +kernel⟩
section
variable {P : Program} {w : World} {K : PySem.W.Frag} {mg : Str → Option Value} {base : Heap}
theorem fg__law_could_be_one {f : Addr} {fd : FuncData} {dV : Value} (T : FunV K "_law_could_be_one" "_law_could_be_one" s__law_could_be_one f fd dV) (z_zip : mg "zip" = none) (z_len : mg "len" = none) : FG P w K mg base 1 f fd ["_law_legs_here"] (spF K 1 F__law_could_be_one) := by
  have sc := sc__law_could_be_one
  exact fg_body 1 3 T sc rfl rfl fun cdv A outer s H E room gd => ⟨_,
    (db_cons (ds_for rfl (di_zipS z_zip (da_cons (de_sl (de_var 0) .non (.som (de_neg de_int))) (da_cons (de_sl (de_var 0) (.som de_int) .non) da_nil))) ((dg_tup rfl (dgs_cons (by exact dg_name sc.nd) (dgs_cons (by exact dg_name sc.nd) dgs_nil)))) (db_one (ds_if (DW.dt (dw_and (dt_eq (units_of room) (de_len z_len (da_cons (de_var 1) da_nil)) de_int) (dw_and (dt_eq (units_of room) (de_len z_len (da_cons (de_var 2) da_nil)) de_int) (dw_and (dt_eq (units_of room) (de_ix (unit1_of room) (de_var 1) de_int) (de_ix (unit1_of room) (de_var 2) de_int)) (dw_and1 (dt_eq (units_of room) (de_ix (unit1_of room) (de_var 1) de_int) (de_ix (unit1_of room) (de_var 2) de_int))))))) (db_one (ds_if (dt_gt (de_mulI (de_sub (de_ix (unit1_of room) (de_var 1) de_int) (de_ix (unit1_of room) (de_var 1) de_int)) (de_sub (de_ix (unit1_of room) (de_var 2) de_int) (de_ix (unit1_of room) (de_var 2) de_int))) de_int) (db_one (ds_ret de_bl)) db_nil)) db_nil)))
    (db_one (ds_ret de_bl)))⟩
end
abbrev s__law_behind : Stmt := top 28
theorem sc__law_behind : FnScope ["_law_legs_here", "_law_found", "_law_one"] ["_law_legs_here"] (defScope s__law_behind) := ⟨rfl, rfl, rfl, by decide +kernel, rfl, by decide +kernel, by decide +kernel⟩
section
variable {P : Program} {w : World} {K : PySem.W.Frag} {mg : Str → Option Value} {base : Heap}
theorem fg__law_behind {f : Addr} {fd : FuncData} {dV : Value} (T : FunV K "_law_behind" "_law_behind" s__law_behind f fd dV) (z_len : mg "len" = none) (z_tuple : mg "tuple" = none) : FG P w K mg base 1 f fd ["_law_legs_here"] (spF K 1 F__law_behind) := by
  have sc := sc__law_behind
  exact fg_body 1 3 T sc rfl rfl fun cdv A outer s H E room gd => ⟨_,
    (db_cons (ds_set sc.nd (de_frz (de_lst da_nil)))
    (db_cons (ds_for rfl (di_any (de_var 0)) (dg_name sc.nd) (db_one (ds_set sc.nd (de_frz (de_add (de_lst (da_cons (de_ifE (dt_eq (units_of room) (de_len z_len (da_cons (de_var 2) da_nil)) de_int) (de_var 2) (de_tup (da_cons (de_ix (unit1_of room) (de_var 2) de_int) (da_cons (de_ix (unit1_of room) (de_var 2) de_int) (da_cons (de_ix (unit1_of room) (de_var 2) de_int) da_nil))))) da_nil)) (de_var 1))))))
    (db_one (ds_ret (de_tuple z_tuple (da_cons (de_var 1) da_nil))))))⟩
end
abbrev s__law_right : Stmt := top 29
theorem sc__law_right : FnScope ["_law_book_here", "_law_legs_here", "_law_before", "_law_back", "_law_short", "_law_one"] ["_law_book_here", "_law_legs_here"] (defScope s__law_right) := ⟨rfl, rfl, rfl, by decide +kernel, rfl, by decide +kernel, by decide +kernel⟩
section
variable {P : Program} {w : World} {K : PySem.W.Frag} {mg : Str → Option Value} {base : Heap}
theorem fg__law_right {f : Addr} {fd : FuncData} {dV : Value} (T : FunV K "_law_right" "_law_right" s__law_right f fd dV) (D_shortened : Df P w K mg base 2 "shortened" 1 F_shortened [] []) (D_turned : Df P w K mg base 1 "turned" 1 F_turned [] []) (D__law_behind : Df P w K mg base 1 "_law_behind" 1 F__law_behind [] []) (D__law_could_be_one : Df P w K mg base 1 "_law_could_be_one" 1 F__law_could_be_one [] []) (D__law_one_by_one : Df P w K mg base 1 "_law_one_by_one" 1 F__law_one_by_one_ab0 [] []) (D_counted_2 : Df P w K mg base 4 "counted" 3 F_counted [.non] [.dat .non]) (D_passed_2 : Df P w K mg base 4 "passed" 3 F_passed [.non] [.dat .non]) (D_sums_of_2 : Df P w K mg base 4 "sums_of" 3 F_sums_of [.non] [.dat .non]) (z_repr : mg "repr" = none) (z_isinstance : mg "isinstance" = none) (z_tuple : mg "tuple" = none) (z_len : mg "len" = none) : FG P w K mg base 5 f fd ["_law_book_here", "_law_legs_here"] (spF K 2 F__law_right_d84) := by
  have sc := sc__law_right
  exact fg_body 2 6 T sc rfl rfl fun cdv A outer s H E room gd => ⟨_,
    (db_cons (ds_set sc.nd (de_frz (de_repr gd (units_of room) z_repr (da_cons (de_lst (da_cons (de_var 0) (da_cons (de_var 1) da_nil))) da_nil))))
    (db_cons (ds_par2 (i := 3) (j := 4) rfl sc.nd (da_cons (de_frz (de_call D_turned room gd (da_cons (de_var 1) da_nil))) (da_cons (de_frz (de_call D_shortened room gd (da_cons (de_var 1) da_nil))) da_nil)))
    (db_cons (ds_if (DW.dt (dw_or (dt_ne (units_of room) (de_repr gd (units_of room) z_repr (da_cons (de_var 3) da_nil)) (de_repr gd (units_of room) z_repr (da_cons (de_call D__law_behind room gd (da_cons (de_var 1) da_nil)) da_nil))) (dw_or1 (dt_ne (units_of room) (de_repr gd (units_of room) z_repr (da_cons (de_call D_turned room gd (da_cons (de_var 3) da_nil)) da_nil)) (de_repr gd (units_of room) z_repr (da_cons (de_var 1) da_nil)))))) (db_one (ds_ret de_bl)) db_nil)
    (db_cons (ds_if (DW.dt (dw_or (dt_not (dt_truth (de_isi z_isinstance z_tuple PyProof.Rows.boot_tuple (de_var 4)))) (dw_or1 (dt_truth (de_call D__law_could_be_one room gd (da_cons (de_var 4) da_nil)))))) (db_one (ds_ret de_bl)) db_nil)
    (db_cons (ds_if (DW.dt (dw_or (dt_ne (units_of room) (de_repr gd (units_of room) z_repr (da_cons (de_call D__law_one_by_one room gd (da_cons (de_var 4) da_nil)) da_nil)) (de_repr gd (units_of room) z_repr (da_cons (de_call D__law_one_by_one room gd (da_cons (de_var 1) da_nil)) da_nil))) (dw_or1 (dt_ne (units_of room) (de_repr gd (units_of room) z_repr (da_cons (de_call D_shortened room gd (da_cons (de_var 1) da_nil)) da_nil)) (de_repr gd (units_of room) z_repr (da_cons (de_var 4) da_nil)))))) (db_one (ds_ret de_bl)) db_nil)
    (db_cons (ds_if (DW.dt (dw_or (dt_ne (units_of room) (de_repr gd (units_of room) z_repr (da_cons (de_call D_shortened room gd (da_cons (de_var 3) da_nil)) da_nil)) (de_repr gd (units_of room) z_repr (da_cons (de_call D__law_behind room gd (da_cons (de_var 4) da_nil)) da_nil))) (dw_or1 (dt_ne (units_of room) (de_repr gd (units_of room) z_repr (da_cons (de_call D_shortened room gd (da_cons (de_var 4) da_nil)) da_nil)) (de_repr gd (units_of room) z_repr (da_cons (de_var 4) da_nil)))))) (db_one (ds_ret de_bl)) db_nil)
    (db_cons (ds_if (dt_eq (units_of room) (de_len z_len (da_cons (de_call D_counted_2 room gd (da_cons (de_var 0) (da_cons (de_var 1) da_nil))) da_nil)) (de_len z_len (da_cons (de_comp rfl sc.nd (di_any (de_var 1)) (blkOk_by (own := [("_law_one", 5)]) (by rfl)) (fun _ _ _ _ _ => by exact dg_name sc.nd) (fun _ _ _ _ _ => ⟨_, (dts_one (dt_eq (units_of room) (de_len z_len (da_cons (de_var 5) da_nil)) de_int))⟩) (fun _ _ _ _ _ => ⟨_, (de_var 5)⟩)) da_nil))) (db_one (ds_if (DW.dt (dw_or (dt_ne (units_of room) (de_repr gd (units_of room) z_repr (da_cons (de_call D_passed_2 room gd (da_cons (de_var 0) (da_cons (de_var 4) da_nil))) da_nil)) (de_repr gd (units_of room) z_repr (da_cons (de_call D_passed_2 room gd (da_cons (de_var 0) (da_cons (de_var 1) da_nil))) da_nil))) (dw_or1 (dt_ne (units_of room) (de_call D_sums_of_2 room gd (da_cons (de_var 0) (da_cons (de_var 4) da_nil))) (de_call D_sums_of_2 room gd (da_cons (de_var 0) (da_cons (de_var 1) da_nil))))))) (db_one (ds_ret de_bl)) db_nil)) db_nil)
    (db_one (ds_ret (de_eq (units_of room) (de_repr gd (units_of room) z_repr (da_cons (de_lst (da_cons (de_var 0) (da_cons (de_var 1) da_nil))) da_nil)) (de_var 2)))))))))))⟩
end
abbrev s_law : Stmt := top 30
theorem sc_law : FnScope ["_law_script", "_law_draw", "_law_book_here", "_law_turn", "_law_legs_here"] ["_law_script"] (defScope s_law) := ⟨rfl, rfl, rfl, by decide +kernel, rfl, by decide +kernel, by decide +kernel⟩
section
variable {P : Program} {w : World} {K : PySem.W.Frag} {mg : Str → Option Value} {base : Heap}
theorem fg_law {f : Addr} {fd : FuncData} {dV : Value} (T : FunV K "law" "law" s_law f fd dV) (D__law_begin : Df P w K mg base 1 "_law_begin" 1 F__law_begin [] []) (D__law_book : Df P w K mg base 5 "_law_book" 2 F__law_book [] []) (D__law_next : Df P w K mg base 2 "_law_next" 2 F__law_next [] []) (D__law_legs : Df P w K mg base 5 "_law_legs" 3 F__law_legs [] []) (D__law_cut : Df P w K mg base 3 "_law_cut" 3 F__law_cut [] []) (D__law_right : Df P w K mg base 5 "_law_right" 2 F__law_right_d84 [] []) (D__law_behind : Df P w K mg base 1 "_law_behind" 1 F__law_behind [] []) (z_range : mg "range" = none) : FG P w K mg base 6 f fd ["_law_script"] (spF K 1 F_law_80f) := by
  have sc := sc_law
  exact fg_body 1 5 T sc rfl rfl fun cdv A outer s H E room gd => ⟨_,
    (db_cons (ds_setC sc.nd (de_call D__law_begin room gd (da_cons (de_var 0) da_nil)))
    (db_cons (ds_set sc.nd (de_frz (de_call D__law_book room gd (da_cons (de_var 1) (da_cons de_int da_nil)))))
    (db_cons (ds_for rfl (di_range1 z_range (da_cons de_int da_nil)) (dg_name sc.nd) (db_cons (ds_set sc.nd (de_frz (de_call D__law_legs room gd (da_cons (de_var 1) (da_cons (de_var 2) (da_cons (de_add de_int (de_call D__law_next room gd (da_cons (de_var 1) (da_cons (de_ix (unit1_of room) (de_lst (da_cons de_int (da_cons de_int (da_cons de_int da_nil)))) (de_call D__law_next room gd (da_cons (de_var 1) (da_cons de_int da_nil)))) da_nil)))) da_nil))))))
    (db_cons (ds_set sc.nd (de_frz (de_call D__law_cut room gd (da_cons (de_var 1) (da_cons (de_var 4) (da_cons (de_call D__law_next room gd (da_cons (de_var 1) (da_cons (de_ix (unit1_of room) (de_lst (da_cons de_int (da_cons de_int (da_cons de_int da_nil)))) (de_call D__law_next room gd (da_cons (de_var 1) (da_cons de_int da_nil)))) da_nil))) da_nil))))))
    (db_one (ds_if (DW.dt (dw_or (dt_not (dt_truth (de_call D__law_right room gd (da_cons (de_var 2) (da_cons (de_var 4) da_nil))))) (dw_or1 (dt_not (dt_truth (de_call D__law_right room gd (da_cons (de_var 2) (da_cons (de_call D__law_behind room gd (da_cons (de_var 4) da_nil)) da_nil)))))))) (db_one (ds_ret de_bl)) db_nil)))))
    (db_one (ds_ret de_bl)))))⟩
end
theorem all_mk {l : PySem.W.OpenLaw} {w : World} {K : PySem.W.Frag} {h : Heap} {mg : Str → Option Value} {fa f0 f1 f2 f3 f4 f5 f6 f7 f8 f9 f10 f11 f12 f13 f14 f15 f16 f17 f18 f19 f20 f21 f22 f23 f24 f25 f26 f27 : Addr} (KX : K.In h) (G : h.Ns mainGlobals mg) (hfa : mg "law" = some (.ref fa))
    {od0 an0 od1 an1 od2 an2 od3 an3 od4 an4 od5 an5 od6 an6 od7 an7 od8 an8 od9 an9 od10 an10 od11 an11 od12 an12 od13 an13 od14 an14 od15 an15 od16 an16 od17 an17 od18 an18 od19 an19 od20 an20 od21 an21 od22 an22 od23 an23 od24 an24 od25 an25 od26 an26 od27 an27 : Option Addr} {sl0 sl1 sl2 sl3 sl4 sl5 sl6 sl7 sl8 sl9 sl10 sl11 sl12 sl13 sl14 sl15 sl16 sl17 sl18 sl19 sl20 sl21 sl22 sl23 sl24 sl25 sl26 sl27 : Array (Option Value)} {oc0 kV0 dc0 pm0 cd0 ct0 oc1 kV1 dc1 pm1 cd1 ct1 oc2 kV2 dc2 pm2 cd2 ct2 oc3 kV3 dc3 pm3 cd3 ct3 oc4 kV4 dc4 pm4 cd4 ct4 oc5 kV5 dc5 pm5 cd5 ct5 oc6 kV6 dc6 pm6 cd6 ct6 oc7 kV7 dc7 pm7 cd7 ct7 oc8 kV8 dc8 pm8 cd8 ct8 oc9 kV9 dc9 pm9 cd9 ct9 oc10 kV10 dc10 pm10 cd10 ct10 oc11 kV11 dc11 pm11 cd11 ct11 oc12 kV12 dc12 pm12 cd12 ct12 oc13 kV13 dc13 pm13 cd13 ct13 oc14 kV14 dc14 pm14 cd14 ct14 oc15 kV15 dc15 pm15 cd15 ct15 oc16 kV16 dc16 pm16 cd16 ct16 oc17 kV17 dc17 pm17 cd17 ct17 oc18 kV18 dc18 pm18 cd18 ct18 oc19 kV19 dc19 pm19 cd19 ct19 oc20 kV20 dc20 pm20 cd20 ct20 oc21 kV21 dc21 pm21 cd21 ct21 oc22 kV22 dc22 pm22 cd22 ct22 oc23 kV23 dc23 pm23 cd23 ct23 oc24 kV24 dc24 pm24 cd24 ct24 oc25 kV25 dc25 pm25 cd25 ct25 oc26 kV26 dc26 pm26 cd26 ct26 oc27 kV27 dc27 pm27 cd27 ct27 : Value}
    (a0 : PySem.W.nsIn K mainGlobals "steps_of" = some (some (.ref f0))) (l0 : K.lookup f0 = some ⟨oc0, od0, .func (PySem.W.fnOf "steps_of" "steps_of" (defArgs s_steps_of) (defBody s_steps_of) (defScope s_steps_of) .none kV0 dc0 pm0 an0 cd0 ct0), sl0⟩) (c0 : PySem.W.codeIn K cd0 "steps_of" = true) (k0 : PySem.W.keepIn K (.ref f0) = true)
    (a1 : PySem.W.nsIn K mainGlobals "measure" = some (some (.ref f1))) (l1 : K.lookup f1 = some ⟨oc1, od1, .func (PySem.W.fnOf "measure" "measure" (defArgs s_measure) (defBody s_measure) (defScope s_measure) .none kV1 dc1 pm1 an1 cd1 ct1), sl1⟩) (c1 : PySem.W.codeIn K cd1 "measure" = true) (k1 : PySem.W.keepIn K (.ref f1) = true)
    (a2 : PySem.W.nsIn K mainGlobals "turned" = some (some (.ref f2))) (l2 : K.lookup f2 = some ⟨oc2, od2, .func (PySem.W.fnOf "turned" "turned" (defArgs s_turned) (defBody s_turned) (defScope s_turned) .none kV2 dc2 pm2 an2 cd2 ct2), sl2⟩) (c2 : PySem.W.codeIn K cd2 "turned" = true) (k2 : PySem.W.keepIn K (.ref f2) = true)
    (a3 : PySem.W.nsIn K mainGlobals "goes_on" = some (some (.ref f3))) (l3 : K.lookup f3 = some ⟨oc3, od3, .func (PySem.W.fnOf "goes_on" "goes_on" (defArgs s_goes_on) (defBody s_goes_on) (defScope s_goes_on) .none kV3 dc3 pm3 an3 cd3 ct3), sl3⟩) (c3 : PySem.W.codeIn K cd3 "goes_on" = true) (k3 : PySem.W.keepIn K (.ref f3) = true)
    (a4 : PySem.W.nsIn K mainGlobals "shortened" = some (some (.ref f4))) (l4 : K.lookup f4 = some ⟨oc4, od4, .func (PySem.W.fnOf "shortened" "shortened" (defArgs s_shortened) (defBody s_shortened) (defScope s_shortened) .none kV4 dc4 pm4 an4 cd4 ct4), sl4⟩) (c4 : PySem.W.codeIn K cd4 "shortened" = true) (k4 : PySem.W.keepIn K (.ref f4) = true)
    (a5 : PySem.W.nsIn K mainGlobals "found_by" = some (some (.ref f5))) (l5 : K.lookup f5 = some ⟨oc5, od5, .func (PySem.W.fnOf "found_by" "found_by" (defArgs s_found_by) (defBody s_found_by) (defScope s_found_by) .none kV5 dc5 pm5 an5 cd5 ct5), sl5⟩) (c5 : PySem.W.codeIn K cd5 "found_by" = true) (k5 : PySem.W.keepIn K (.ref f5) = true)
    (a6 : PySem.W.nsIn K mainGlobals "counted_by" = some (some (.ref f6))) (l6 : K.lookup f6 = some ⟨oc6, od6, .func (PySem.W.fnOf "counted_by" "counted_by" (defArgs s_counted_by) (defBody s_counted_by) (defScope s_counted_by) .none kV6 dc6 pm6 an6 cd6 ct6), sl6⟩) (c6 : PySem.W.codeIn K cd6 "counted_by" = true) (k6 : PySem.W.keepIn K (.ref f6) = true)
    (a7 : PySem.W.nsIn K mainGlobals "pairs_of" = some (some (.ref f7))) (l7 : K.lookup f7 = some ⟨oc7, od7, .func (PySem.W.fnOf "pairs_of" "pairs_of" (defArgs s_pairs_of) (defBody s_pairs_of) (defScope s_pairs_of) .none kV7 dc7 pm7 an7 cd7 ct7), sl7⟩) (c7 : PySem.W.codeIn K cd7 "pairs_of" = true) (k7 : PySem.W.keepIn K (.ref f7) = true)
    {dt8 : Addr} {xc8 : Value} {xd8 : Option Addr} {xn8 : Nat} {xs8 : Array (Option Value)}
    (d8 : K.lookup dt8 = some ⟨xc8, xd8, .seq #[.none] xn8, xs8⟩)
    (a8 : PySem.W.nsIn K mainGlobals "counted" = some (some (.ref f8))) (l8 : K.lookup f8 = some ⟨oc8, od8, .func (PySem.W.fnOf "counted" "counted" (defArgs s_counted) (defBody s_counted) (defScope s_counted) (.ref dt8) kV8 dc8 pm8 an8 cd8 ct8), sl8⟩) (c8 : PySem.W.codeIn K cd8 "counted" = true) (k8 : PySem.W.keepIn K (.ref f8) = true)
    {dt9 : Addr} {xc9 : Value} {xd9 : Option Addr} {xn9 : Nat} {xs9 : Array (Option Value)}
    (d9 : K.lookup dt9 = some ⟨xc9, xd9, .seq #[.none] xn9, xs9⟩)
    (a9 : PySem.W.nsIn K mainGlobals "passed" = some (some (.ref f9))) (l9 : K.lookup f9 = some ⟨oc9, od9, .func (PySem.W.fnOf "passed" "passed" (defArgs s_passed) (defBody s_passed) (defScope s_passed) (.ref dt9) kV9 dc9 pm9 an9 cd9 ct9), sl9⟩) (c9 : PySem.W.codeIn K cd9 "passed" = true) (k9 : PySem.W.keepIn K (.ref f9) = true)
    {dt10 : Addr} {xc10 : Value} {xd10 : Option Addr} {xn10 : Nat} {xs10 : Array (Option Value)}
    (d10 : K.lookup dt10 = some ⟨xc10, xd10, .seq #[.none] xn10, xs10⟩)
    (a10 : PySem.W.nsIn K mainGlobals "sums_of" = some (some (.ref f10))) (l10 : K.lookup f10 = some ⟨oc10, od10, .func (PySem.W.fnOf "sums_of" "sums_of" (defArgs s_sums_of) (defBody s_sums_of) (defScope s_sums_of) (.ref dt10) kV10 dc10 pm10 an10 cd10 ct10), sl10⟩) (c10 : PySem.W.codeIn K cd10 "sums_of" = true) (k10 : PySem.W.keepIn K (.ref f10) = true)
    (a11 : PySem.W.nsIn K mainGlobals "_law_begin" = some (some (.ref f11))) (l11 : K.lookup f11 = some ⟨oc11, od11, .func (PySem.W.fnOf "_law_begin" "_law_begin" (defArgs s__law_begin) (defBody s__law_begin) (defScope s__law_begin) .none kV11 dc11 pm11 an11 cd11 ct11), sl11⟩) (c11 : PySem.W.codeIn K cd11 "_law_begin" = true) (k11 : PySem.W.keepIn K (.ref f11) = true)
    (a12 : PySem.W.nsIn K mainGlobals "_law_mixed" = some (some (.ref f12))) (l12 : K.lookup f12 = some ⟨oc12, od12, .func (PySem.W.fnOf "_law_mixed" "_law_mixed" (defArgs s__law_mixed) (defBody s__law_mixed) (defScope s__law_mixed) .none kV12 dc12 pm12 an12 cd12 ct12), sl12⟩) (c12 : PySem.W.codeIn K cd12 "_law_mixed" = true) (k12 : PySem.W.keepIn K (.ref f12) = true)
    (a13 : PySem.W.nsIn K mainGlobals "_law_next" = some (some (.ref f13))) (l13 : K.lookup f13 = some ⟨oc13, od13, .func (PySem.W.fnOf "_law_next" "_law_next" (defArgs s__law_next) (defBody s__law_next) (defScope s__law_next) .none kV13 dc13 pm13 an13 cd13 ct13), sl13⟩) (c13 : PySem.W.codeIn K cd13 "_law_next" = true) (k13 : PySem.W.keepIn K (.ref f13) = true)
    (a14 : PySem.W.nsIn K mainGlobals "_law_words" = some (some (.ref f14))) (l14 : K.lookup f14 = some ⟨oc14, od14, .func (PySem.W.fnOf "_law_words" "_law_words" (defArgs s__law_words) (defBody s__law_words) (defScope s__law_words) .none kV14 dc14 pm14 an14 cd14 ct14), sl14⟩) (c14 : PySem.W.codeIn K cd14 "_law_words" = true) (k14 : PySem.W.keepIn K (.ref f14) = true)
    (a15 : PySem.W.nsIn K mainGlobals "_law_stretch" = some (some (.ref f15))) (l15 : K.lookup f15 = some ⟨oc15, od15, .func (PySem.W.fnOf "_law_stretch" "_law_stretch" (defArgs s__law_stretch) (defBody s__law_stretch) (defScope s__law_stretch) .none kV15 dc15 pm15 an15 cd15 ct15), sl15⟩) (c15 : PySem.W.codeIn K cd15 "_law_stretch" = true) (k15 : PySem.W.keepIn K (.ref f15) = true)
    (a16 : PySem.W.nsIn K mainGlobals "_law_section" = some (some (.ref f16))) (l16 : K.lookup f16 = some ⟨oc16, od16, .func (PySem.W.fnOf "_law_section" "_law_section" (defArgs s__law_section) (defBody s__law_section) (defScope s__law_section) .none kV16 dc16 pm16 an16 cd16 ct16), sl16⟩) (c16 : PySem.W.codeIn K cd16 "_law_section" = true) (k16 : PySem.W.keepIn K (.ref f16) = true)
    (a17 : PySem.W.nsIn K mainGlobals "_law_book" = some (some (.ref f17))) (l17 : K.lookup f17 = some ⟨oc17, od17, .func (PySem.W.fnOf "_law_book" "_law_book" (defArgs s__law_book) (defBody s__law_book) (defScope s__law_book) .none kV17 dc17 pm17 an17 cd17 ct17), sl17⟩) (c17 : PySem.W.codeIn K cd17 "_law_book" = true) (k17 : PySem.W.keepIn K (.ref f17) = true)
    (a18 : PySem.W.nsIn K mainGlobals "_law_leg" = some (some (.ref f18))) (l18 : K.lookup f18 = some ⟨oc18, od18, .func (PySem.W.fnOf "_law_leg" "_law_leg" (defArgs s__law_leg) (defBody s__law_leg) (defScope s__law_leg) .none kV18 dc18 pm18 an18 cd18 ct18), sl18⟩) (c18 : PySem.W.codeIn K cd18 "_law_leg" = true) (k18 : PySem.W.keepIn K (.ref f18) = true)
    (a19 : PySem.W.nsIn K mainGlobals "_law_end" = some (some (.ref f19))) (l19 : K.lookup f19 = some ⟨oc19, od19, .func (PySem.W.fnOf "_law_end" "_law_end" (defArgs s__law_end) (defBody s__law_end) (defScope s__law_end) .none kV19 dc19 pm19 an19 cd19 ct19), sl19⟩) (c19 : PySem.W.codeIn K cd19 "_law_end" = true) (k19 : PySem.W.keepIn K (.ref f19) = true)
    (a20 : PySem.W.nsIn K mainGlobals "_law_on" = some (some (.ref f20))) (l20 : K.lookup f20 = some ⟨oc20, od20, .func (PySem.W.fnOf "_law_on" "_law_on" (defArgs s__law_on) (defBody s__law_on) (defScope s__law_on) .none kV20 dc20 pm20 an20 cd20 ct20), sl20⟩) (c20 : PySem.W.codeIn K cd20 "_law_on" = true) (k20 : PySem.W.keepIn K (.ref f20) = true)
    (a21 : PySem.W.nsIn K mainGlobals "_law_legs" = some (some (.ref f21))) (l21 : K.lookup f21 = some ⟨oc21, od21, .func (PySem.W.fnOf "_law_legs" "_law_legs" (defArgs s__law_legs) (defBody s__law_legs) (defScope s__law_legs) .none kV21 dc21 pm21 an21 cd21 ct21), sl21⟩) (c21 : PySem.W.codeIn K cd21 "_law_legs" = true) (k21 : PySem.W.keepIn K (.ref f21) = true)
    (a22 : PySem.W.nsIn K mainGlobals "_law_cut" = some (some (.ref f22))) (l22 : K.lookup f22 = some ⟨oc22, od22, .func (PySem.W.fnOf "_law_cut" "_law_cut" (defArgs s__law_cut) (defBody s__law_cut) (defScope s__law_cut) .none kV22 dc22 pm22 an22 cd22 ct22), sl22⟩) (c22 : PySem.W.codeIn K cd22 "_law_cut" = true) (k22 : PySem.W.keepIn K (.ref f22) = true)
    (a23 : PySem.W.nsIn K mainGlobals "_law_one_by_one" = some (some (.ref f23))) (l23 : K.lookup f23 = some ⟨oc23, od23, .func (PySem.W.fnOf "_law_one_by_one" "_law_one_by_one" (defArgs s__law_one_by_one) (defBody s__law_one_by_one) (defScope s__law_one_by_one) .none kV23 dc23 pm23 an23 cd23 ct23), sl23⟩) (c23 : PySem.W.codeIn K cd23 "_law_one_by_one" = true) (k23 : PySem.W.keepIn K (.ref f23) = true)
    (a24 : PySem.W.nsIn K mainGlobals "_law_could_be_one" = some (some (.ref f24))) (l24 : K.lookup f24 = some ⟨oc24, od24, .func (PySem.W.fnOf "_law_could_be_one" "_law_could_be_one" (defArgs s__law_could_be_one) (defBody s__law_could_be_one) (defScope s__law_could_be_one) .none kV24 dc24 pm24 an24 cd24 ct24), sl24⟩) (c24 : PySem.W.codeIn K cd24 "_law_could_be_one" = true) (k24 : PySem.W.keepIn K (.ref f24) = true)
    (a25 : PySem.W.nsIn K mainGlobals "_law_behind" = some (some (.ref f25))) (l25 : K.lookup f25 = some ⟨oc25, od25, .func (PySem.W.fnOf "_law_behind" "_law_behind" (defArgs s__law_behind) (defBody s__law_behind) (defScope s__law_behind) .none kV25 dc25 pm25 an25 cd25 ct25), sl25⟩) (c25 : PySem.W.codeIn K cd25 "_law_behind" = true) (k25 : PySem.W.keepIn K (.ref f25) = true)
    (a26 : PySem.W.nsIn K mainGlobals "_law_right" = some (some (.ref f26))) (l26 : K.lookup f26 = some ⟨oc26, od26, .func (PySem.W.fnOf "_law_right" "_law_right" (defArgs s__law_right) (defBody s__law_right) (defScope s__law_right) .none kV26 dc26 pm26 an26 cd26 ct26), sl26⟩) (c26 : PySem.W.codeIn K cd26 "_law_right" = true) (k26 : PySem.W.keepIn K (.ref f26) = true)
    (a27 : PySem.W.nsIn K mainGlobals "law" = some (some (.ref f27))) (l27 : K.lookup f27 = some ⟨oc27, od27, .func (PySem.W.fnOf "law" "law" (defArgs s_law) (defBody s_law) (defScope s_law) .none kV27 dc27 pm27 an27 cd27 ct27), sl27⟩) (c27 : PySem.W.codeIn K cd27 "law" = true) (k27 : PySem.W.keepIn K (.ref f27) = true)
    {ga_RIDE : Addr} {gd_RIDE : Option Addr} {gn_RIDE : Nat} {gs_RIDE : Array (Option Value)} {gt_RIDE_0 : Tok}
    (ha_RIDE : PySem.W.nsIn K mainGlobals "RIDE" = some (some (.ref ga_RIDE))) (hb_RIDE : K.lookup ga_RIDE = some ⟨.type "tuple", gd_RIDE, .seq #[(.str "ride" gt_RIDE_0)] gn_RIDE, gs_RIDE⟩)
    (b_range : PySem.W.nsIn K mainGlobals "range" = some none)
    (b_max : PySem.W.nsIn K mainGlobals "max" = some none)
    (b_len : PySem.W.nsIn K mainGlobals "len" = some none)
    (b_tuple : PySem.W.nsIn K mainGlobals "tuple" = some none)
    (b_reversed : PySem.W.nsIn K mainGlobals "reversed" = some none)
    (b_dict : PySem.W.nsIn K mainGlobals "dict" = some none)
    (b_sorted : PySem.W.nsIn K mainGlobals "sorted" = some none)
    (b_any : PySem.W.nsIn K mainGlobals "any" = some none)
    (b_enumerate : PySem.W.nsIn K mainGlobals "enumerate" = some none)
    (b_list : PySem.W.nsIn K mainGlobals "list" = some none)
    (b_abs : PySem.W.nsIn K mainGlobals "abs" = some none)
    (b_min : PySem.W.nsIn K mainGlobals "min" = some none)
    (b_zip : PySem.W.nsIn K mainGlobals "zip" = some none)
    (b_repr : PySem.W.nsIn K mainGlobals "repr" = some none)
    (b_isinstance : PySem.W.nsIn K mainGlobals "isinstance" = some none)
    : ∃ fd : FuncData, (∀ (s : Shared) (v : Value), BindsTo s fd ⟨[v], []⟩ [("_law_script", v)]) ∧ ∀ base : Heap, K.In base → base.Ns mainGlobals mg → FG l.prog w K mg base 6 fa fd ["_law_script"] (spF K 1 F_law_80f) := by
  have e := hfa.symm.trans (PySem.W.mg_of KX G a27)
  cases e
  have z_range := PySem.W.mg_none_of KX G b_range
  have z_max := PySem.W.mg_none_of KX G b_max
  have z_len := PySem.W.mg_none_of KX G b_len
  have z_tuple := PySem.W.mg_none_of KX G b_tuple
  have z_reversed := PySem.W.mg_none_of KX G b_reversed
  have z_dict := PySem.W.mg_none_of KX G b_dict
  have z_sorted := PySem.W.mg_none_of KX G b_sorted
  have z_any := PySem.W.mg_none_of KX G b_any
  have z_enumerate := PySem.W.mg_none_of KX G b_enumerate
  have z_list := PySem.W.mg_none_of KX G b_list
  have z_abs := PySem.W.mg_none_of KX G b_abs
  have z_min := PySem.W.mg_none_of KX G b_min
  have z_zip := PySem.W.mg_none_of KX G b_zip
  have z_repr := PySem.W.mg_none_of KX G b_repr
  have z_isinstance := PySem.W.mg_none_of KX G b_isinstance
  have g_RIDE : Glb K mg "RIDE" (.ref ga_RIDE) (.kt [(.str "ride")]) := ⟨⟨_, PySem.W.mg_of KX G ha_RIDE, rfl⟩, fun _ => .kt (.inr ⟨_, _, _, hb_RIDE, rfl, rfl, (by show 1 ≤ sizeLine; decide), (.cons (show RelV (.str "ride") _ from ⟨_, rfl⟩) .nil)⟩) (.cons (.str _) .nil)⟩
  have T0 := funV_mk (st := s_steps_of) l0 c0 k0
  have T1 := funV_mk (st := s_measure) l1 c1 k1
  have T2 := funV_mk (st := s_turned) l2 c2 k2
  have T3 := funV_mk (st := s_goes_on) l3 c3 k3
  have T4 := funV_mk (st := s_shortened) l4 c4 k4
  have T5 := funV_mk (st := s_found_by) l5 c5 k5
  have T6 := funV_mk (st := s_counted_by) l6 c6 k6
  have T7 := funV_mk (st := s_pairs_of) l7 c7 k7
  have T8 := funV_mk (st := s_counted) l8 c8 k8
  have T9 := funV_mk (st := s_passed) l9 c9 k9
  have T10 := funV_mk (st := s_sums_of) l10 c10 k10
  have T11 := funV_mk (st := s__law_begin) l11 c11 k11
  have T12 := funV_mk (st := s__law_mixed) l12 c12 k12
  have T13 := funV_mk (st := s__law_next) l13 c13 k13
  have T14 := funV_mk (st := s__law_words) l14 c14 k14
  have T15 := funV_mk (st := s__law_stretch) l15 c15 k15
  have T16 := funV_mk (st := s__law_section) l16 c16 k16
  have T17 := funV_mk (st := s__law_book) l17 c17 k17
  have T18 := funV_mk (st := s__law_leg) l18 c18 k18
  have T19 := funV_mk (st := s__law_end) l19 c19 k19
  have T20 := funV_mk (st := s__law_on) l20 c20 k20
  have T21 := funV_mk (st := s__law_legs) l21 c21 k21
  have T22 := funV_mk (st := s__law_cut) l22 c22 k22
  have T23 := funV_mk (st := s__law_one_by_one) l23 c23 k23
  have T24 := funV_mk (st := s__law_could_be_one) l24 c24 k24
  have T25 := funV_mk (st := s__law_behind) l25 c25 k25
  have T26 := funV_mk (st := s__law_right) l26 c26 k26
  have T27 := funV_mk (st := s_law) l27 c27 k27
  refine ⟨PySem.W.fnOf "law" "law" (defArgs s_law) (defBody s_law) (defScope s_law) .none kV27 dc27 pm27 an27 cd27 ct27, fun s v => .of_eq rfl, fun base _ _ => ?_⟩
  have G_steps_of := fg_steps_of (P := l.prog) (w := w) (mg := mg) (base := base) T0 z_range
  have D_steps_of := df_of G_steps_of (PySem.W.mg_of KX G a0) T0.kp (T0.binds fun _ _ _ _ _ _ us hl => match us, hl with | [u0], _ => rfl)
  have G_measure := fg_measure (P := l.prog) (w := w) (mg := mg) (base := base) T1 D_steps_of z_max z_len
  have D_measure := df_of G_measure (PySem.W.mg_of KX G a1) T1.kp (T1.binds fun _ _ _ _ _ _ us hl => match us, hl with | [u0, u1], _ => rfl)
  have G_turned := fg_turned (P := l.prog) (w := w) (mg := mg) (base := base) T2 z_tuple z_reversed g_RIDE
  have D_turned := df_of G_turned (PySem.W.mg_of KX G a2) T2.kp (T2.binds fun _ _ _ _ _ _ us hl => match us, hl with | [u0], _ => rfl)
  have G_goes_on := fg_goes_on (P := l.prog) (w := w) (mg := mg) (base := base) T3 g_RIDE
  have D_goes_on := df_of G_goes_on (PySem.W.mg_of KX G a3) T3.kp (T3.binds fun _ _ _ _ _ _ us hl => match us, hl with | [u0, u1], _ => rfl)
  have G_shortened := fg_shortened (P := l.prog) (w := w) (mg := mg) (base := base) T4 D_goes_on z_len z_tuple
  have D_shortened := df_of G_shortened (PySem.W.mg_of KX G a4) T4.kp (T4.binds fun _ _ _ _ _ _ us hl => match us, hl with | [u0], _ => rfl)
  have G_found_by := fg_found_by (P := l.prog) (w := w) (mg := mg) (base := base) T5 z_dict z_max z_len g_RIDE
  have D_found_by := df_of G_found_by (PySem.W.mg_of KX G a5) T5.kp (T5.binds fun _ _ _ _ _ _ us hl => match us, hl with | [u0, u1, u2], _ => rfl)
  have G_counted_by := fg_counted_by (P := l.prog) (w := w) (mg := mg) (base := base) T6 D_found_by
  have D_counted_by := df_of G_counted_by (PySem.W.mg_of KX G a6) T6.kp (T6.binds fun _ _ _ _ _ _ us hl => match us, hl with | [u0, u1, u2], _ => rfl)
  have G_pairs_of := fg_pairs_of (P := l.prog) (w := w) (mg := mg) (base := base) T7 D_counted_by
  have D_pairs_of := df_of G_pairs_of (PySem.W.mg_of KX G a7) T7.kp (T7.binds fun _ _ _ _ _ _ us hl => match us, hl with | [u0, u1, u2], _ => rfl)
  have G_counted := fg_counted (P := l.prog) (w := w) (mg := mg) (base := base) T8 D_pairs_of
  have D_counted_2 := df_ofD G_counted (PySem.W.mg_of KX G a8) T8.kp ((funD_mk (dvs := [.non]) (its := [.none]) l8 c8 k8 d8 (.cons (show RelV .non _ from rfl) .nil) (by simp)).binds1 2 0 (by simp) rfl fun _ _ _ _ _ _ _ us its h1 h2 => match us, its, h1, h2 with | [u0, u1], [w0], _, _ => ⟨_, rfl, rfl⟩) (dfl_cons (fun _ => .non) dfl_nil)
  have G_passed := fg_passed (P := l.prog) (w := w) (mg := mg) (base := base) T9 D_pairs_of D_steps_of
  have D_passed_2 := df_ofD G_passed (PySem.W.mg_of KX G a9) T9.kp ((funD_mk (dvs := [.non]) (its := [.none]) l9 c9 k9 d9 (.cons (show RelV .non _ from rfl) .nil) (by simp)).binds1 2 0 (by simp) rfl fun _ _ _ _ _ _ _ us its h1 h2 => match us, its, h1, h2 with | [u0, u1], [w0], _, _ => ⟨_, rfl, rfl⟩) (dfl_cons (fun _ => .non) dfl_nil)
  have G_sums_of := fg_sums_of (P := l.prog) (w := w) (mg := mg) (base := base) T10 D_pairs_of D_measure
  have D_sums_of_2 := df_ofD G_sums_of (PySem.W.mg_of KX G a10) T10.kp ((funD_mk (dvs := [.non]) (its := [.none]) l10 c10 k10 d10 (.cons (show RelV .non _ from rfl) .nil) (by simp)).binds1 2 0 (by simp) rfl fun _ _ _ _ _ _ _ us its h1 h2 => match us, its, h1, h2 with | [u0, u1], [w0], _, _ => ⟨_, rfl, rfl⟩) (dfl_cons (fun _ => .non) dfl_nil)
  have G__law_begin := fg__law_begin (P := l.prog) (w := w) (mg := mg) (base := base) T11
  have D__law_begin := df_of G__law_begin (PySem.W.mg_of KX G a11) T11.kp (T11.binds fun _ _ _ _ _ _ us hl => match us, hl with | [u0], _ => rfl)
  have G__law_mixed := fg__law_mixed (P := l.prog) (w := w) (mg := mg) (base := base) T12
  have D__law_mixed := df_of G__law_mixed (PySem.W.mg_of KX G a12) T12.kp (T12.binds fun _ _ _ _ _ _ us hl => match us, hl with | [u0, u1], _ => rfl)
  have G__law_next := fg__law_next (P := l.prog) (w := w) (mg := mg) (base := base) T13 D__law_mixed z_len
  have D__law_next := df_of G__law_next (PySem.W.mg_of KX G a13) T13.kp (T13.binds fun _ _ _ _ _ _ us hl => match us, hl with | [u0, u1], _ => rfl)
  have G__law_words := fg__law_words (P := l.prog) (w := w) (mg := mg) (base := base) T14 D__law_next z_len z_range
  have D__law_words := df_of G__law_words (PySem.W.mg_of KX G a14) T14.kp (T14.binds fun _ _ _ _ _ _ us hl => match us, hl with | [u0, u1], _ => rfl)
  have G__law_stretch := fg__law_stretch (P := l.prog) (w := w) (mg := mg) (base := base) T15 D__law_next
  have D__law_stretch := df_of G__law_stretch (PySem.W.mg_of KX G a15) T15.kp (T15.binds fun _ _ _ _ _ _ us hl => match us, hl with | [u0], _ => rfl)
  have G__law_section := fg__law_section (P := l.prog) (w := w) (mg := mg) (base := base) T16 D__law_next D__law_stretch z_len z_tuple z_range
  have D__law_section := df_of G__law_section (PySem.W.mg_of KX G a16) T16.kp (T16.binds fun _ _ _ _ _ _ us hl => match us, hl with | [u0, u1, u2], _ => rfl)
  have G__law_book := fg__law_book (P := l.prog) (w := w) (mg := mg) (base := base) T17 D__law_next D__law_words D__law_section z_tuple z_sorted z_any z_len
  have D__law_book := df_of G__law_book (PySem.W.mg_of KX G a17) T17.kp (T17.binds fun _ _ _ _ _ _ us hl => match us, hl with | [u0, u1], _ => rfl)
  have G__law_leg := fg__law_leg (P := l.prog) (w := w) (mg := mg) (base := base) T18 D__law_next D__law_words z_len
  have D__law_leg := df_of G__law_leg (PySem.W.mg_of KX G a18) T18.kp (T18.binds fun _ _ _ _ _ _ us hl => match us, hl with | [u0, u1], _ => rfl)
  have G__law_end := fg__law_end (P := l.prog) (w := w) (mg := mg) (base := base) T19 z_max z_len
  have D__law_end := df_of G__law_end (PySem.W.mg_of KX G a19) T19.kp (T19.binds fun _ _ _ _ _ _ us hl => match us, hl with | [u0, u1], _ => rfl)
  have G__law_on := fg__law_on (P := l.prog) (w := w) (mg := mg) (base := base) T20 D__law_next z_enumerate z_len
  have D__law_on := df_of G__law_on (PySem.W.mg_of KX G a20) T20.kp (T20.binds fun _ _ _ _ _ _ us hl => match us, hl with | [u0, u1, u2], _ => rfl)
  have G__law_legs := fg__law_legs (P := l.prog) (w := w) (mg := mg) (base := base) T21 D__law_next D__law_leg D__law_end D__law_on z_len z_tuple
  have D__law_legs := df_of G__law_legs (PySem.W.mg_of KX G a21) T21.kp (T21.binds fun _ _ _ _ _ _ us hl => match us, hl with | [u0, u1, u2], _ => rfl)
  have G__law_cut := fg__law_cut (P := l.prog) (w := w) (mg := mg) (base := base) T22 D__law_next z_list z_range z_len z_abs z_min z_tuple
  have D__law_cut := df_of G__law_cut (PySem.W.mg_of KX G a22) T22.kp (T22.binds fun _ _ _ _ _ _ us hl => match us, hl with | [u0, u1, u2], _ => rfl)
  have G__law_one_by_one := fg__law_one_by_one (P := l.prog) (w := w) (mg := mg) (base := base) T23 z_len z_range
  have D__law_one_by_one := df_of G__law_one_by_one (PySem.W.mg_of KX G a23) T23.kp (T23.binds fun _ _ _ _ _ _ us hl => match us, hl with | [u0], _ => rfl)
  have G__law_could_be_one := fg__law_could_be_one (P := l.prog) (w := w) (mg := mg) (base := base) T24 z_zip z_len
  have D__law_could_be_one := df_of G__law_could_be_one (PySem.W.mg_of KX G a24) T24.kp (T24.binds fun _ _ _ _ _ _ us hl => match us, hl with | [u0], _ => rfl)
  have G__law_behind := fg__law_behind (P := l.prog) (w := w) (mg := mg) (base := base) T25 z_len z_tuple
  have D__law_behind := df_of G__law_behind (PySem.W.mg_of KX G a25) T25.kp (T25.binds fun _ _ _ _ _ _ us hl => match us, hl with | [u0], _ => rfl)
  have G__law_right := fg__law_right (P := l.prog) (w := w) (mg := mg) (base := base) T26 D_shortened D_turned D__law_behind D__law_could_be_one D__law_one_by_one D_counted_2 D_passed_2 D_sums_of_2 z_repr z_isinstance z_tuple z_len
  have D__law_right := df_of G__law_right (PySem.W.mg_of KX G a26) T26.kp (T26.binds fun _ _ _ _ _ _ us hl => match us, hl with | [u0, u1], _ => rfl)
  exact fg_law T27 D__law_begin D__law_book D__law_next D__law_legs D__law_cut D__law_right D__law_behind z_range
end GK14

namespace FL
open PySem PySem.Spec PyProof.Rows L2 L3
theorem mixed_ok {c k : Int} {μ : List SV} {Q X} (hk : 0 ≤ k ∧ k ≤ 2 ^ 50) (h : ∀ m : Int, 0 ≤ m → Q (.dat (.int m)) μ) : Wf F__law_mixed [.dat (.int c), .dat (.int k)] μ Q X := by
  unfold F__law_mixed fb__law_mixed
  simp [wf_run]
  refine ⟨.inr ⟨by omega, by omega⟩, ⟨by omega, by omega⟩, .inl ⟨by omega, by omega⟩, .inr ⟨by omega, by omega⟩, h _ ?_⟩
  omega
/-- a draw: its cells, its numbers below B -/
def Dr (B : Int) (x : SV) : Prop := ∃ (cs : List Int) (a l u : Int), x = .node (.dK drawKs) [.dat (.lst (cs.map D.int)), .dat (.int a), .dat (.int l), .dat (.int u)] ∧ 0 < cs.length ∧ cs.length ≤ 1000 ∧ 0 ≤ a ∧ a ≤ B ∧ 0 ≤ l ∧ 0 ≤ u ∧ u ≤ B
theorem next_ok {B m : Int} {x : SV} {Q X} (hx : Dr B x) (hB : B < 2 ^ 49) (hm : 0 < m ∧ m < 2 ^ 29) (h : ∀ (r : Int) (x' : SV), 0 ≤ r → r < m → Dr (B + 1) x' → Q (.dat (.int r)) [x']) : Wf F__law_next [.cell 0, .dat (.int m)] [x] Q X := by
  obtain ⟨cs, a, l, u, rfl, h1, h2, h3, h4, h5, h6, h7⟩ := hx
  unfold F__law_next fb__law_next
  simp [wf_run]
  have fin : ∀ z : Int, Wf F__law_mixed [.dat (.int z), .dat (.int (a + 1))] [.node (.dK drawKs) [.dat (.lst (cs.map D.int)), .dat (.int (a + 1)), .dat (.int l), .dat (.int (u + 1))]] (fun x μ' => ∃ m, 0 ≤ m ∧ x = .dat (.int m) ∧ μ' = [.node (.dK drawKs) [.dat (.lst (cs.map D.int)), .dat (.int (a + 1)), .dat (.int l), .dat (.int (u + 1))]]) X := fun z => mixed_ok ⟨by omega, by omega⟩ fun m hm => ⟨m, hm, rfl, rfl⟩
  have dr : ∀ a' l' u' : Int, 0 ≤ a' → a' ≤ B + 1 → 0 ≤ l' → 0 ≤ u' → u' ≤ B + 1 → Dr (B + 1) (.node (.dK drawKs) [.dat (.lst (cs.map D.int)), .dat (.int a'), .dat (.int l'), .dat (.int u')]) := fun a' l' u' e1 e2 e3 e4 e5 => ⟨cs, a', l', u', rfl, h1, h2, e1, e2, e3, e4, e5⟩
  have last : ∀ z : Int, (∀ (x : SV) (μ' : List SV), (∃ m, 0 ≤ m ∧ x = .dat (.int m) ∧ μ' = [.node (.dK drawKs) [.dat (.lst (cs.map D.int)), .dat (.int (a + 1)), .dat (.int l), .dat (.int (u + 1))]]) → True) := fun _ _ _ _ => trivial
  refine ⟨fun hl => ⟨hm.1, ⟨hm.1, by omega⟩, h _ _ (Int.emod_nonneg _ (by omega)) (Int.emod_lt_of_pos _ hm.1) (dr _ _ _ (by omega) (by omega) (Int.ediv_nonneg h5 (by omega)) h6 (by omega))⟩, fun hl => ⟨h1, ob_at (Int.emod_nonneg _ (by omega)) (Int.emod_lt_of_pos _ (by omega)) fun z hz => ?_⟩⟩
  simp
  refine ⟨fun hz1 => ⟨fun ha => ⟨⟨hm.1, by omega⟩, hm.1, h _ _ (Int.emod_nonneg _ (by omega)) (Int.emod_lt_of_pos _ hm.1) (dr _ _ _ (by omega) (by omega) (Int.ediv_nonneg (by omega) (by omega)) h6 (by omega))⟩, fun ha => ?_⟩, fun hz1 => ?_⟩
  all_goals
    refine wf_mono (fin z) (fun x μ' hx => ?_) (fun _ _ hx => hx)
    obtain ⟨m1, hm1, rfl, rfl⟩ := hx
    simp
    refine mixed_ok ⟨by omega, by omega⟩ fun m2 hm2 => ?_
    simp
    exact ⟨hm.1, h _ _ (Int.emod_nonneg _ (by omega)) (Int.emod_lt_of_pos _ hm.1) (dr _ _ _ (by omega) (by omega) h5 (by omega) (by omega))⟩
/-! ### steps_of, measure -/
/-- the numbers between, in the order walked -/
def stepsL (a b : Int) : List D := if a < b then (rangeL a (b - a).toNat 1).map fun d => .tup [d, .bl true] else (rangeL (a - 1) (a - 1 - (b - 1)).toNat (-1)).map fun d => .tup [d, .bl false]
theorem steps_ok {n : Str} {a b : Int} {μ : List SV} {Q X} (ha : 0 ≤ a ∧ a ≤ 100) (hb : 0 ≤ b ∧ b ≤ 100) (h : Q (.own ((stepsL a b).map SV.dat)) μ) : Wf F_steps_of [.dat (.tup [.str n, .int a, .int b])] μ Q X := by
  have sm : ∀ i : Int, -1 ≤ i → i ≤ 100 → small62 i := fun i h1 h2 => small62_of (by omega) (by omega)
  unfold F_steps_of fb_steps_of
  simp [wf_run, cut_tail]
  unfold stepsL at h
  refine ⟨fun hab => ⟨⟨sm _ (by omega) (by omega), sm _ (by omega) (by omega)⟩, ?_⟩, fun hab => ⟨⟨sm _ (by omega) (by omega), sm _ (by omega) (by omega)⟩, ?_⟩⟩
  · rw [if_pos hab] at h
    refine ct_map (fun d => .dat (.tup [d, .bl true])) (by simp; omega) (fun d hd => ?_) ?_
    · simp
    · simp at h ⊢; exact h
  · rw [if_neg (by omega)] at h
    refine ct_map (fun d => .dat (.tup [d, .bl false])) (by simp; omega) (fun d hd => ?_) ?_
    · simp
    · simp at h ⊢; exact h
/-- a stretch -/
def enc (t : Int × Int × Int) : D := .tup [.int t.1, .int t.2.1, .int t.2.2]
theorem stepsL_get {a b : Int} {i : Nat} {d : D} (h : (stepsL a b)[i]? = some d) : (a < b ∧ (i : Int) < b - a ∧ d = .tup [.int (a + i), .bl true]) ∨ (¬ a < b ∧ (i : Int) < a - b ∧ d = .tup [.int (a - 1 - i), .bl false]) := by
  unfold stepsL rangeL at h
  by_cases hab : a < b
  · rw [if_pos hab] at h
    simp only [List.getElem?_map, List.map_map] at h
    by_cases hi : i < (b - a).toNat
    · rw [List.getElem?_range hi] at h
      simp at h
      exact .inl ⟨hab, by omega, by rw [← h]⟩
    · rw [List.getElem?_eq_none (by simpa using hi)] at h; cases h
  · rw [if_neg hab] at h
    simp only [List.getElem?_map, List.map_map] at h
    by_cases hi : i < (a - 1 - (b - 1)).toNat
    · rw [List.getElem?_range hi] at h
      simp at h
      exact .inr ⟨hab, by omega, by rw [← h]; congr 4; try omega⟩
    · rw [List.getElem?_eq_none (by simpa using hi)] at h; cases h
theorem stepsL_len {a b : Int} : (stepsL a b).length = (if a < b then (b - a).toNat else (a - b).toNat) := by
  unfold stepsL
  split
  · simp
  · simp; omega
/-- what of the rows' one number is gone by, of the first i steps -/
def gone (R : List (Int × Int × Int)) (f : Int × Int × Int → Int) (a b : Int) (i : Nat) : Int := ((List.range i).map fun (j : Nat) => ((R[(if a < b then a + (j : Int) else a - 1 - (j : Int)).toNat]?).map f).getD 0).sum
theorem gone_succ {R : List (Int × Int × Int)} {f : Int × Int × Int → Int} {a b : Int} {i : Nat} : gone R f a b (i + 1) = gone R f a b i + ((R[(if a < b then a + i else a - 1 - i).toNat]?).map f).getD 0 := by
  unfold gone; rw [List.range_succ, List.map_append, List.sum_append]; simp
def len (t : Int × Int × Int) : Int := t.1
def upw (fw : Bool) (t : Int × Int × Int) : Int := if fw then t.2.1 else t.2.2
/-- what is measured -/
def measD (R : List (Int × Int × Int)) (a b : Int) : D := if max a b > R.length then .non else
  .tup [.int (gone R len a b (stepsL a b).length), .int (gone R (upw (decide (a < b))) a b (stepsL a b).length), .int (gone R (upw (!decide (a < b))) a b (stepsL a b).length)]
theorem measure_ok {n n' : Str} {ms : List D} {R : List (Int × Int × Int)} {a b : Int} {μ : List SV} {Q X} (hR : ms.length = R.length + 1) (ha : 0 ≤ a ∧ a ≤ 100) (hb : 0 ≤ b ∧ b ≤ 100) (h : Q (.dat (measD R a b)) μ) :
    Wf F_measure [.dat (.tup [.str n, .tup ms, .tup (R.map enc)]), .dat (.tup [.str n', .int a, .int b])] μ Q X := by
  unfold F_measure fb_measure
  simp [wf_run]
  have hmax : (if a < b then b else a) = max a b := by split <;> omega
  rw [hmax]
  unfold measD at h
  refine ⟨fun hm => ?_, fun hm => ?_⟩
  · rw [if_pos (by omega)] at h; exact h
  · rw [if_neg (by omega)] at h
    refine steps_ok ha hb ?_
    simp
    refine forF_ind (fun i S => ∃ y5 y6 y7 y8 y9, S = ⟨[some (.dat (.tup [.str n, .tup ms, .tup (R.map enc)])), some (.dat (.tup [.str n', .int a, .int b])), some (.dat (.int (gone R len a b i))), some (.dat (.int (gone R (upw (decide (a < b))) a b i))), some (.dat (.int (gone R (upw (!decide (a < b))) a b i))), y5, y6, y7, y8, y9], μ⟩) ⟨none, none, none, none, none, by simp [gone]⟩ (fun i d S hd hI => ?_) (fun S hI => ?_)
    · obtain ⟨y5, y6, y7, y8, y9, rfl⟩ := hI
      obtain ⟨j, hj, ej, fw, rfl, efw⟩ : ∃ j : Int, (0 ≤ j ∧ j < R.length) ∧ j = (if a < b then a + (i : Int) else a - 1 - (i : Int)) ∧ ∃ fw, d = .tup [.int j, .bl fw] ∧ fw = decide (a < b) := by
        rcases stepsL_get hd with ⟨h1, h2, h3⟩ | ⟨h1, h2, h3⟩
        · exact ⟨_, ⟨by omega, by omega⟩, by rw [if_pos h1], true, h3, by simp [h1]⟩
        · exact ⟨_, ⟨by omega, by omega⟩, by rw [if_neg h1], false, h3, by simp [h1]⟩
      simp
      obtain ⟨t, et⟩ : ∃ t, R[j.toNat]? = some t := ⟨_, List.getElem?_eq_getElem (by omega)⟩
      have eat : atI R j = some t := by rw [atI_in hj.1 (by omega)]; exact et
      have g1 : ∀ f, gone R f a b (i + 1) = gone R f a b i + f t := fun f => by rw [gone_succ, ← ej, et]; rfl
      cases fw
      · simp [eat, enc, g1, ← efw, len, upw]
      · simp [eat, enc, g1, ← efw, len, upw]
    · obtain ⟨y5, y6, y7, y8, y9, rfl⟩ := hI
      simpa using h
end FL

namespace FL
open PySem PySem.Spec PyProof.Rows L2 L3
theorem lsteps_ok {n : Str} {a b : Int} {μ : List SV} {Q X} (ha : 0 ≤ a ∧ a ≤ 100) (hb : 0 ≤ b ∧ b ≤ 100) (h : Q (.own ((stepsL a b).map SV.dat)) μ) : Wf F__law_steps [.dat (.tup [.str n, .int a, .int b])] μ Q X := by
  have sm : ∀ i : Int, -1 ≤ i → i ≤ 100 → small62 i := fun i h1 h2 => small62_of (by omega) (by omega)
  have hmax : (if a < b then b else a) = max a b := by split <;> omega
  have hmin : (if b < a then b else a) = min a b := by split <;> omega
  unfold F__law_steps fb__law_steps
  simp [wf_run]
  rw [hmax, hmin]
  unfold stepsL at h
  refine br_of (fun hab => ?_) (fun hab => ?_)
  · simp at hab
    simp
    refine ⟨⟨sm _ (by omega) (by omega), sm _ (by omega) (by omega)⟩, ?_⟩
    refine ct_map (fun d => .dat (.tup [d, .bl true])) (by simp; omega) (fun d hd => ?_) ?_
    · simp
    · by_cases hlt : a < b
      · rw [if_pos hlt] at h
        have e1 : min a b = a := by omega
        have e2 : max a b = b := by omega
        rw [e1, e2]
        simp at h ⊢; exact h
      · rw [if_neg hlt] at h
        have e1 : (max a b - min a b).toNat = 0 := by omega
        have e2 : (a - 1 - (b - 1)).toNat = 0 := by omega
        rw [e2] at h; rw [e1]
        simp [rangeL] at h ⊢; exact h
  · simp at hab
    rw [if_neg (by omega)] at h
    have e1 : min a b = b := by omega
    have e2 : max a b = a := by omega
    rw [e1, e2]
    simp
    refine ⟨sm _ (by omega) (by omega), ?_⟩
    refine ct_map (fun d => match d with | .int i => .dat (.tup [.int (a - 1 - i), .bl false]) | _ => .dat .non) (by simp; omega) (fun d hd => ?_) ?_
    · obtain ⟨i, hi, rfl⟩ := mem_range hd
      simp
    · have e3 : (a - 1 - (b - 1)).toNat = (a - b).toNat := by omega
      rw [e3] at h
      simp [rangeL, Function.comp_def] at h ⊢
      have e4 : ∀ x : Nat, a - 1 - (x : Int) = a - 1 + -(x : Int) := fun x => by omega
      simp only [e4]
      exact h
/-- the rows between, summed -/
def btw (R0 : List (Int × Int × Int)) (a b : Int) : List (Int × Int × Int) := (R0.drop (min a b).toNat).take ((max a b).toNat - (min a b).toNat)
theorem sum_rev (g : Nat → Int) : ∀ n : Nat, ((List.range n).map fun j => g (n - 1 - j)).sum = ((List.range n).map g).sum := by
  intro n
  have : (List.range n).map (fun j => g (n - 1 - j)) = ((List.range n).map g).reverse := by
    apply List.ext_getElem
    · simp
    · intro i h1 h2
      simp at h1
      simp
  rw [this, List.sum_reverse]
theorem gone_all {Rw : List (Int × Int × Int)} {f : Int × Int × Int → Int} {a b : Int} (ha : 0 ≤ a) (hb : 0 ≤ b) (hm : max a b ≤ Rw.length) : gone Rw f a b (stepsL a b).length = ((btw Rw a b).map f).sum := by
  have base : ∀ lo hi : Nat, lo ≤ hi → hi ≤ Rw.length → ((List.range (hi - lo)).map fun j => ((Rw[lo + j]?).map f).getD 0).sum = (((Rw.drop lo).take (hi - lo)).map f).sum := fun lo hi h1 h2 => by
    congr 1
    apply List.ext_getElem
    · simp; omega
    · intro i k1 k2
      simp at k1
      have : lo + i < Rw.length := by omega
      simp [List.getElem?_eq_getElem this]
  rw [stepsL_len]
  unfold gone btw
  by_cases hab : a < b
  · simp only [hab, if_true]
    rw [show min a b = a by omega, show max a b = b by omega, ← base a.toNat b.toNat (by omega) (by omega), show (b - a).toNat = b.toNat - a.toNat by omega]
    congr 1
    apply List.map_congr_left
    intro j hj
    rw [show (a + (j : Int)).toNat = a.toNat + j by omega]
  · simp only [hab, if_false]
    rw [show min a b = b by omega, show max a b = a by omega, ← base b.toNat a.toNat (by omega) (by omega), show (a - b).toNat = a.toNat - b.toNat by omega, ← sum_rev]
    congr 1
    apply List.map_congr_left
    intro j hj
    have := List.mem_range.mp hj
    rw [show (a - 1 - ((a.toNat - b.toNat - 1 - j : Nat) : Int)).toNat = b.toNat + j by omega]
theorem due_ok {n n' : Str} {ms : List D} {Rw : List (Int × Int × Int)} {a b : Int} {μ : List SV} {Q X} (hR : Rw.length ≤ 1000) (ha : 0 ≤ a ∧ a ≤ 100) (hb : 0 ≤ b ∧ b ≤ 100) (hab : a ≠ b) (h : Q (.dat (measD Rw a b)) μ) :
    Wf F__law_due [.dat (.tup [.str n, .tup ms, .tup (Rw.map enc)]), .dat (.tup [.str n', .int a, .int b])] μ Q X := by
  have hmax : (if a < b then b else a) = max a b := by split <;> omega
  have hmin : (if b < a then b else a) = min a b := by split <;> omega
  unfold F__law_due fb__law_due
  simp [wf_run]
  rw [hmax, hmin]
  unfold measD at h
  refine ⟨fun hm => ?_, fun hm => ?_⟩
  · rw [if_pos (by omega)] at h; exact h
  · rw [if_neg (by omega), gone_all ha.1 hb.1 (by omega), gone_all ha.1 hb.1 (by omega), gone_all ha.1 hb.1 (by omega)] at h
    have ecut : cutD (Rw.map enc) (some (min a b)) (some (max a b)) = (btw Rw a b).map enc := by
      have e1 : min a b = (((min a b).toNat : Nat) : Int) := by omega
      have e2 : max a b = (((max a b).toNat : Nat) : Int) := by omega
      rw [e1, e2, cut_nat _ _ _ (by simp; omega) (by simp; omega)]
      unfold btw
      rw [List.map_take, List.map_drop]
    rw [ecut]
    have hl : (btw Rw a b).length ≤ 1000 := by unfold btw; simp; omega
    have row : ∀ d ∈ (btw Rw a b).map enc, ∃ t, d = enc t := fun d hd => by
      obtain ⟨t, _, rfl⟩ := List.mem_map.mp hd; exact ⟨t, rfl⟩
    refine ct_map (fun d => match d with | .tup (x :: _) => .dat x | _ => .dat .non) (by simp; omega) (fun d hd => ?_) ?_
    · obtain ⟨t, rfl⟩ := row d hd; simp [enc]
    simp [Function.comp_def, enc]
    refine ct_map (fun d => match d with | .tup (_ :: x :: _) => .dat x | _ => .dat .non) (by simp; omega) (fun d hd => ?_) ?_
    · obtain ⟨t, _, rfl⟩ := List.mem_map.mp hd; simp [enc]
    simp [Function.comp_def, enc]
    refine ct_map (fun d => match d with | .tup (_ :: _ :: x :: _) => .dat x | _ => .dat .non) (by simp; omega) (fun d hd => ?_) ?_
    · obtain ⟨t, _, rfl⟩ := List.mem_map.mp hd; simp [enc]
    simp [Function.comp_def, enc]
    refine ⟨fun hc => ?_, fun hc => ?_⟩
    · have : a < b := by omega
      simp [this, upw] at h
      exact h
    · have : ¬ a < b := by omega
      simp [this, upw] at h
      exact h
end FL

namespace FL
open PySem PySem.Spec PyProof.Rows L2 L3
/-- a small word -/
def Wd (x : Str) : Prop := x.length ≤ 8 ∧ PyData.canLay0 (.str x) = true
def RowOk (t : Int × Int × Int) : Prop := (0 ≤ t.1 ∧ t.1 ≤ 1000) ∧ (0 ≤ t.2.1 ∧ t.2.1 ≤ 1000) ∧ (0 ≤ t.2.2 ∧ t.2.2 ≤ 1000)
/-- a section -/
structure Sec (d : D) (n : Str) (ms : List Str) (Rw : List (Int × Int × Int)) : Prop where
  eq : d = .tup [.str n, .tup (ms.map D.str), .tup (Rw.map enc)]
  len : ms.length = Rw.length + 1
  few : Rw.length ≤ 7
  name : Wd n
  marks : ∀ m ∈ ms, Wd m
  rows : ∀ t ∈ Rw, RowOk t
theorem sum_bd {n : Int} (hn : 0 ≤ n) : ∀ {xs : List Int}, (∀ x ∈ xs, 0 ≤ x ∧ x ≤ n) → 0 ≤ xs.sum ∧ xs.sum ≤ n * xs.length
  | [], _ => by simp
  | x :: xs, h => by
    have h1 := h x (by simp)
    have h2 := sum_bd hn (xs := xs) fun y hy => h y (by simp [hy])
    simp only [List.sum_cons, List.length_cons]
    have : n * ((xs.length + 1 : Nat) : Int) = n * xs.length + n := by rw [Int.natCast_add, Int.mul_add]; simp
    omega
theorem steps_sm {a b : Int} (ha : 0 ≤ a ∧ a ≤ 100) (hb : 0 ≤ b ∧ b ≤ 100) : (D.lst (stepsL a b)).sm ∧ (D.lst (stepsL a b)).wt ≤ 2 ^ 20 ∧ (D.lst (stepsL a b)).dp ≤ 64 := by
  have it : ∀ d ∈ stepsL a b, ∃ j f, (-200 ≤ j ∧ j ≤ 200) ∧ d = .tup [.int j, .bl f] := fun d hd => by
    obtain ⟨i, hi⟩ := List.mem_iff_getElem?.mp hd
    rcases stepsL_get hi with ⟨h1, h2, h3⟩ | ⟨h1, h2, h3⟩
    · exact ⟨_, _, ⟨by omega, by omega⟩, h3⟩
    · exact ⟨_, _, ⟨by omega, by omega⟩, h3⟩
  refine ⟨smL_iff.mpr fun d hd => ?_, ?_, ?_⟩
  · obtain ⟨j, f, hj, rfl⟩ := it d hd
    simp [D.sm, smL]; omega
  · have h1 : wtL (stepsL a b) ≤ (stepsL a b).length * (50 + 1) := wtL_le fun d hd => by
      obtain ⟨j, f, hj, rfl⟩ := it d hd
      simp [D.wt, wtL]
    have h2 : (stepsL a b).length ≤ 100 := by rw [stepsL_len]; split <;> omega
    show wtL (stepsL a b) ≤ _
    omega
  · have : dpL (stepsL a b) ≤ 1 := dpL_le fun d hd => by
      obtain ⟨j, f, hj, rfl⟩ := it d hd
      simp [D.dp, dpL]
    show dpL (stepsL a b) + 1 ≤ 64
    omega
theorem btw_mem {Rw : List (Int × Int × Int)} {a b : Int} {t : Int × Int × Int} (h : t ∈ btw Rw a b) : t ∈ Rw := List.mem_of_mem_drop (List.mem_of_mem_take h)
theorem btw_sum {Rw : List (Int × Int × Int)} {a b : Int} {f : Int × Int × Int → Int} (hl : Rw.length ≤ 7) (h : ∀ t ∈ Rw, 0 ≤ f t ∧ f t ≤ 1000) : 0 ≤ ((btw Rw a b).map f).sum ∧ ((btw Rw a b).map f).sum ≤ 7000 := by
  have h1 := sum_bd (n := 1000) (by decide) (xs := (btw Rw a b).map f) fun x hx => by
    obtain ⟨t, ht, rfl⟩ := List.mem_map.mp hx
    exact h t (btw_mem ht)
  have h2 : ((btw Rw a b).map f).length ≤ 7 := by unfold btw; simp; omega
  omega
/-- what is measured, by the rows between -/
theorem meas_eq {Rw : List (Int × Int × Int)} {a b : Int} (ha : 0 ≤ a) (hb : 0 ≤ b) (hm : max a b ≤ Rw.length) : measD Rw a b = .tup [.int ((btw Rw a b).map len).sum, .int ((btw Rw a b).map (upw (decide (a < b)))).sum, .int ((btw Rw a b).map (upw (!decide (a < b)))).sum] := by
  unfold measD
  rw [if_neg (by omega), gone_all ha hb hm, gone_all ha hb hm, gone_all ha hb hm]
theorem upw_ok {t : Int × Int × Int} {f : Bool} (h : RowOk t) : 0 ≤ upw f t ∧ upw f t ≤ 1000 := by
  obtain ⟨h1, h2, h3⟩ := h
  cases f
  · exact h3
  · exact h2
theorem meas_sm {Rw : List (Int × Int × Int)} {a b : Int} (hl : Rw.length ≤ 7) (h : ∀ t ∈ Rw, RowOk t) (ha : 0 ≤ a) (hb : 0 ≤ b) : (measD Rw a b).sm ∧ (measD Rw a b).wt ≤ 2 ^ 20 ∧ (measD Rw a b).dp ≤ 64 := by
  by_cases hm : max a b ≤ Rw.length
  · rw [meas_eq ha hb hm]
    have h1 := btw_sum (f := len) (a := a) (b := b) hl fun t ht => (h t ht).1
    have h2 := btw_sum (f := upw (decide (a < b))) (a := a) (b := b) hl fun t ht => upw_ok (h t ht)
    have h3 := btw_sum (f := upw (!decide (a < b))) (a := a) (b := b) hl fun t ht => upw_ok (h t ht)
    refine ⟨?_, by simp [D.wt, wtL], by simp [D.dp, dpL]⟩
    simp only [D.sm, smL]
    exact ⟨by omega, by omega, by omega, trivial⟩
  · unfold measD; rw [if_pos (by omega)]; simp [D.sm, D.wt, D.dp]
theorem leg_ok {d : D} {n n' : Str} {ms : List Str} {Rw : List (Int × Int × Int)} {a b : Int} {μ : List SV} {Q X} (hs : Sec d n ms Rw) (ha : 0 ≤ a ∧ a ≤ 7) (hb : 0 ≤ b ∧ b ≤ 7) (hab : a ≠ b) (h : Q (.dat (.bl true)) μ) :
    Wf F__law_leg_right [.dat d, .dat (.tup [.str n', .int a, .int b])] μ Q X := by
  obtain ⟨rfl, h1, h2, h3, h4, h5⟩ := hs
  obtain ⟨s1, s2, s3⟩ := steps_sm (a := a) (b := b) (by omega) (by omega)
  obtain ⟨m1, m2, m3⟩ := meas_sm h2 h5 ha.1 hb.1
  obtain ⟨d0, ds, e0⟩ : ∃ d0 ds, stepsL a b = d0 :: ds := by
    cases e : stepsL a b with
    | nil => have := congrArg List.length e; rw [stepsL_len] at this; split at this <;> simp at this <;> omega
    | cons d0 ds => exact ⟨d0, ds, rfl⟩
  obtain ⟨j, f, rfl⟩ : ∃ j f, d0 = .tup [.int j, .bl f] := by
    rcases stepsL_get (a := a) (b := b) (i := 0) (d := d0) (by rw [e0]; rfl) with ⟨_, _, h3⟩ | ⟨_, _, h3⟩
    · exact ⟨_, _, h3⟩
    · exact ⟨_, _, h3⟩
  have hlen : ds.length ≤ 100 := by
    have := congrArg List.length e0; rw [stepsL_len] at this; split at this <;> simp at this <;> omega
  have rs := repr_sm s1 s2 s3
  have rm := repr_sm m1 m2 m3
  unfold F__law_leg_right fb__law_leg_right
  simp [wf_run]
  refine steps_ok (by omega) (by omega) ?_
  simp [rs]
  refine lsteps_ok (by omega) (by omega) ?_
  simp [rs]
  refine measure_ok (by simpa using h1) (by omega) (by omega) ?_
  simp [rm]
  refine due_ok (by omega) (by omega) (by omega) hab ?_
  simp [rm, e0]
  refine ⟨by omega, ?_⟩
  refine steps_ok (by omega) (by omega) ?_
  simp [rs]
  refine lsteps_ok (by omega) (by omega) ?_
  simp [rs]
  exact h
end FL

namespace FL
open PySem PySem.Spec PyProof.Rows L2 L3
theorem btw_add {Rw : List (Int × Int × Int)} {lo m hi : Int} {f : Int × Int × Int → Int} (h0 : 0 ≤ lo) (h1 : lo ≤ m) (h2 : m ≤ hi) : ((btw Rw lo m).map f).sum + ((btw Rw m hi).map f).sum = ((btw Rw lo hi).map f).sum := by
  unfold btw
  rw [show min lo m = lo by omega, show max lo m = m by omega, show min m hi = m by omega, show max m hi = hi by omega, show min lo hi = lo by omega, show max lo hi = hi by omega]
  rw [← List.sum_append, ← List.map_append]
  congr 2
  have e : hi.toNat - lo.toNat = (m.toNat - lo.toNat) + (hi.toNat - m.toNat) := by omega
  rw [e, List.take_add, List.drop_drop]
  congr 3
  omega
theorem btw_symm {Rw : List (Int × Int × Int)} {a b : Int} : btw Rw a b = btw Rw b a := by
  unfold btw; rw [Int.min_comm, Int.max_comm]
theorem btw_part {Rw : List (Int × Int × Int)} {a b m : Int} {f : Int × Int × Int → Int} (ha : 0 ≤ a) (hb : 0 ≤ b) (h1 : min a b ≤ m) (h2 : m ≤ max a b) : ((btw Rw a m).map f).sum + ((btw Rw m b).map f).sum = ((btw Rw a b).map f).sum := by
  by_cases hab : a ≤ b
  · exact btw_add ha (by omega) (by omega)
  · rw [btw_symm (a := a) (b := m), btw_symm (a := m) (b := b), btw_symm (a := a) (b := b), Int.add_comm]
    exact btw_add hb (by omega) (by omega)
theorem parts_ok {d : D} {n n' : Str} {ms : List Str} {Rw : List (Int × Int × Int)} {a b : Int} {μ : List SV} {Q X} (hs : Sec d n ms Rw) (ha : 0 ≤ a) (hb : 0 ≤ b) (hm : max a b ≤ Rw.length) (h : Q (.dat (.bl true)) μ) :
    Wf F__law_in_parts [.dat d, .dat (.tup [.str n', .int a, .int b])] μ Q X := by
  obtain ⟨rfl, h1, h2, h3, h4, h5⟩ := hs
  have hmax : (if a < b then b else a) = max a b := by split <;> omega
  have hmin : (if b < a then b else a) = min a b := by split <;> omega
  unfold F__law_in_parts fb__law_in_parts
  simp [wf_run]
  rw [hmax, hmin]
  refine ⟨⟨small62_of (by omega) (by omega), small62_of (by omega) (by omega)⟩, ?_⟩
  refine forF_ind (fun i S => ∃ y2 y3, S = ⟨[some (.dat (.tup [.str n, .tup (ms.map D.str), .tup (Rw.map enc)])), some (.dat (.tup [.str n', .int a, .int b])), y2, y3, none], μ⟩) ⟨none, none, by simp⟩ (fun i d S hd hI => ?_) (fun S hI => ?_)
  · obtain ⟨y2, y3, rfl⟩ := hI
    obtain ⟨j, hj, rfl⟩ := mem_range (List.mem_of_getElem? hd)
    generalize hm0 : min a b + 1 + (j : Int) * 1 = m
    have m1 : min a b ≤ m := by omega
    have m2 : m ≤ max a b := by omega
    have m3 : min a b < m := by omega
    have m4 : m < max a b := by omega
    simp
    refine measure_ok (by simpa using h1) (by omega) (by omega) ?_
    rw [meas_eq ha (by omega) (by omega)]
    simp
    refine measure_ok (by simpa using h1) (by omega) (by omega) ?_
    rw [meas_eq (by omega) hb (by omega)]
    simp
    have f1 : decide (a < m) = decide (a < b) := by rw [decide_eq_decide]; omega
    have f2 : decide (m < b) = decide (a < b) := by rw [decide_eq_decide]; omega
    rw [f1, f2]
    generalize hp : (D.tup [.int ((btw Rw a m).map len).sum, .int ((btw Rw a m).map (upw (decide (a < b)))).sum, .int ((btw Rw a m).map (upw (!decide (a < b)))).sum]) = p
    generalize hq : (D.tup [.int ((btw Rw m b).map len).sum, .int ((btw Rw m b).map (upw (decide (a < b)))).sum, .int ((btw Rw m b).map (upw (!decide (a < b)))).sum]) = q
    refine ⟨small62_of (by decide) (by decide), ?_⟩
    refine ct_map (fun d => match d with | .int k => .dat (.int ([((btw Rw a b).map len).sum, ((btw Rw a b).map (upw (decide (a < b)))).sum, ((btw Rw a b).map (upw (!decide (a < b)))).sum][k.toNat]?.getD 0)) | _ => .dat .non) (by simp) (fun d hd => ?_) ?_
    · obtain ⟨k, hk, rfl⟩ := mem_range hd
      subst hp hq
      match k, hk with
      | 0, _ => simp [btw_part ha hb m1 m2]
      | 1, _ => simp [btw_part ha hb m1 m2]
      | 2, _ => simp [btw_part ha hb m1 m2]
    · simp [rangeL, List.range_succ]
      refine measure_ok (by simpa using h1) (by omega) (by omega) ?_
      obtain ⟨w1, w2, w3⟩ := meas_sm h2 h5 ha hb
      rw [meas_eq ha hb hm] at w1 w2 w3 ⊢
      simp [eqD_sm w1 w1 w3 w3, eqT_self w1]
  · obtain ⟨y2, y3, rfl⟩ := hI
    simp; exact h
end FL

namespace FL
open PySem PySem.Spec PyProof.Rows L2 L3
theorem begin_ok {ns : List Int} {μ : List SV} {Q X} (hn : ns.length ≤ 63) (h : ∀ cs : List Int, 0 < cs.length → cs.length ≤ 1000 → Q (.node (.dK drawKs) [.dat (.lst (cs.map D.int)), .dat (.int 0), .dat (.int 0), .dat (.int 0)]) μ) : Wf F__law_begin [.dat (.kl (ns.map D.int))] μ Q X := by
  unfold F__law_begin fb__law_begin
  simp [wf_run, show ¬ (Str.ofString "cells" = Str.ofString "at") by decide, show ¬ (Str.ofString "cells" = Str.ofString "left") by decide, show ¬ (Str.ofString "cells" = Str.ofString "used") by decide, show ¬ (Str.ofString "at" = Str.ofString "left") by decide, show ¬ (Str.ofString "at" = Str.ofString "used") by decide, show ¬ (Str.ofString "left" = Str.ofString "used") by decide]
  refine ⟨by omega, ?_⟩
  have := h (ns ++ [0]) (by simp) (by simp; omega)
  simpa using this
theorem row3 {a b c : Int} (h1 : 0 ≤ a ∧ a ≤ 1000) (h2 : 0 ≤ b ∧ b ≤ 1000) (h3 : 0 ≤ c ∧ c ≤ 1000) : RowOk (a, b, c) := ⟨h1, h2, h3⟩
theorem stretch_ok {B : Int} {x : SV} {Q X} (hx : Dr B x) (hB : B < 2 ^ 48) (h : ∀ t x', RowOk t → Dr (B + 4) x' → Q (.dat (enc t)) [x']) : Wf F__law_stretch [.cell 0] [x] Q X := by
  have up : ∀ {B C x}, Dr B x → B ≤ C → Dr C x := fun ⟨cs, a, l, u, e, h1, h2, h3, h4, h5, h6, h7⟩ hc => ⟨cs, a, l, u, e, h1, h2, h3, by omega, h5, h6, by omega⟩
  unfold F__law_stretch fb__law_stretch
  simp [wf_run]
  refine next_ok hx (by omega) (by decide) fun r0 x0 a0 b0 hx0 => ?_
  simp
  refine ⟨fun e0 => ?_, fun e0 => ⟨fun e1 => ?_, fun e1 => ⟨fun e2 => ?_, fun e2 => ?_⟩⟩⟩
  · refine next_ok hx0 (by omega) (by decide) fun r1 x1 a1 b1 hx1 => ?_
    simp
    refine next_ok hx1 (by omega) (by decide) fun r2 x2 a2 b2 hx2 => ?_
    simp
    refine next_ok hx2 (by omega) (by decide) fun r3 x3 a3 b3 hx3 => ?_
    simp
    exact h (1 + r1, r2, r3) x3 (row3 (by omega) (by omega) (by omega)) (up hx3 (by omega))
  · refine next_ok hx0 (by omega) (by decide) fun r1 x1 a1 b1 hx1 => ?_
    simp
    exact h (1, 0, r1) x1 (row3 (by omega) (by omega) (by omega)) (up hx1 (by omega))
  · refine next_ok hx0 (by omega) (by decide) fun r1 x1 a1 b1 hx1 => ?_
    simp
    exact h (999, 999, 999 * r1) x1 (row3 (by omega) (by omega) (by omega)) (up hx1 (by omega))
  · refine next_ok hx0 (by omega) (by decide) fun r1 x1 a1 b1 hx1 => ?_
    simp
    refine next_ok hx1 (by omega) (by decide) fun r2 x2 a2 b2 hx2 => ?_
    simp
    refine next_ok hx2 (by omega) (by decide) fun r3 x3 a3 b3 hx3 => ?_
    simp
    exact h (1 + r1, r2, r3) x3 (row3 (by omega) (by omega) (by omega)) (up hx3 (by omega))
end FL

namespace FL
open PySem PySem.Spec PyProof.Rows L2 L3
theorem Dr.up {B C : Int} {x : SV} (h : Dr B x) (hc : B ≤ C) : Dr C x := by
  obtain ⟨cs, a, l, u, e, h1, h2, h3, h4, h5, h6, h7⟩ := h
  exact ⟨cs, a, l, u, e, h1, h2, h3, by omega, h5, h6, by omega⟩
theorem lay_iff {x : Str} : PyData.canLay0 (.str x) = true ↔ ∀ c ∈ x.cps.toList, c < 0x110000 := by
  simp only [PyData.canLay0, PyData.strOk, Array.all_eq_true, decide_eq_true_eq]
  constructor
  · intro h c hc
    obtain ⟨i, hi, rfl⟩ := List.mem_iff_getElem.mp hc
    simpa using h i (by simpa using hi)
  · intro h i hi
    exact h _ (by simp)
theorem glued_mem (g : Str) : ∀ (rest : List Str) (acc : Array Nat) (c : Nat), c ∈ (rest.foldl (fun acc p => acc ++ g.cps ++ p.cps) acc).toList → c ∈ acc.toList ∨ c ∈ g.cps.toList ∨ ∃ p ∈ rest, c ∈ p.cps.toList
  | [], acc, c, h => .inl h
  | p :: rest, acc, c, h => by
    rcases glued_mem g rest _ c h with h | h | ⟨q, hq, h⟩
    · simp only [Array.toList_append, List.mem_append] at h
      rcases h with (h | h) | h
      · exact .inl h
      · exact .inr (.inl h)
      · exact .inr (.inr ⟨p, by simp, h⟩)
    · exact .inr (.inl h)
    · exact .inr (.inr ⟨q, by simp [hq], h⟩)
theorem join_lay {ys : List Str} (h : ∀ y ∈ ys, PyData.canLay0 (.str y) = true) : PyData.canLay0 (.str (Txt.join (Str.ofString "") ys)) = true := by
  rw [lay_iff]
  intro c hc
  cases ys with
  | nil => exact absurd hc (by simp [Txt.join, Builtin.Str.glued, Str.empty])
  | cons y ys =>
    rcases glued_mem (Str.ofString "") ys y.cps c hc with h1 | h1 | ⟨q, hq, h1⟩
    · exact lay_iff.mp (h y (by simp)) c h1
    · have e0 : (Str.ofString "").cps.toList = [] := by decide
      rw [e0] at h1; cases h1
    · exact lay_iff.mp (h q (by simp [hq])) c h1
theorem join_len {ys : List Str} (h : ∀ y ∈ ys, y.length = 1) : (Txt.join (Str.ofString "") ys).length = ys.length := by
  show (Builtin.Str.glued (Str.ofString "") ys).length = _
  rw [size_glued]
  have z : (Str.ofString "").length = 0 := by decide
  rw [z, Nat.mul_zero, Nat.add_zero]
  induction ys with
  | nil => rfl
  | cons y ys ih =>
    rw [List.map_cons, List.sum_cons, ih fun x hx => h x (by simp [hx]), h y (by simp), List.length_cons]; omega
abbrev letters : Str := "abcdefghijklmnopqrstuvwxyz"
theorem letters_ok : letters.cps.toList.length = 26 ∧ (∀ c ∈ letters.cps.toList, c < 128) ∧ letters.length ≤ 1000000 := by decide +kernel
theorem lay1 {c : Nat} (h : c < 128) : PyData.canLay0 (.str ⟨#[c]⟩) = true := by
  rw [lay_iff]; intro d hd; simp at hd; omega
abbrev tenWords : Str := "ride book closed walk section halts beside badge length climb"
theorem ten_ok : (Txt.split tenWords " ").length = 10 ∧ (∀ y ∈ Txt.split tenWords " ", Wd y) := by
  have : (Txt.split tenWords " ").length = 10 ∧ (∀ y ∈ Txt.split tenWords " ", y.length ≤ 8 ∧ PyData.canLay0 (.str y) = true) := by decide +kernel
  exact this
/-- a word of two letters -/
def two (k : Nat) : Str := ⟨#[97 + k / 26, 97 + k % 26]⟩
theorem filter_add (l : List Str) (w : Str) (ws : List Str) : (l.filter fun x => decide (x ∈ w :: ws)).length ≤ (l.filter fun x => decide (x ∈ ws)).length + l.count w := by
  induction l with
  | nil => simp
  | cons x l ih =>
    rw [List.count_cons]
    by_cases h1 : x = w
    · subst h1
      have e : (x == x) = true := by simp
      simp only [List.filter_cons, List.mem_cons, true_or, decide_true, if_true, List.length_cons, e]
      split <;> simp <;> simp at ih <;> omega
    · have e : (x == w) = false := by simpa using h1
      by_cases h2 : x ∈ ws <;> simp [List.filter_cons, h1, h2, e] <;> simp at ih <;> omega
theorem filter_few {l : List Str} (nd : l.Nodup) : ∀ ws : List Str, (l.filter fun x => decide (x ∈ ws)).length ≤ ws.length
  | [] => by simp
  | w :: ws => by
    have h1 := filter_add l w ws
    have h2 := filter_few nd ws
    have h3 := List.nodup_iff_count.mp nd w
    rw [List.length_cons]; omega
theorem two_nodup : ((List.range 676).map two).Nodup := by
  rw [List.Nodup, List.pairwise_map]
  refine List.Pairwise.imp_of_mem (fun {a b} ha hb h e => ?_) List.nodup_range
  have h1 := List.mem_range.mp ha
  have h2 := List.mem_range.mp hb
  have e2 : (#[97 + a / 26, 97 + a % 26] : Array Nat) = #[97 + b / 26, 97 + b % 26] := congrArg Str.cps e
  have e3 := congrArg Array.toList e2
  simp at e3
  omega
theorem rest_many {ws : List Str} : 676 ≤ (((List.range 676).map two).filter fun x => !decide (x ∈ ws)).length + ws.length := by
  have h1 := filter_few two_nodup ws
  have h2 : ∀ l : List Str, l.length = (l.filter fun x => decide (x ∈ ws)).length + (l.filter fun x => !decide (x ∈ ws)).length := by
    intro l
    induction l with
    | nil => rfl
    | cons x l ih => by_cases h : x ∈ ws <;> simp [List.filter_cons, h] <;> omega
  have h3 := h2 ((List.range 676).map two)
  rw [List.length_map, List.length_range] at h3
  omega
end FL

namespace FL
open PySem PySem.Spec PyProof.Rows L2 L3
abbrev sL (ws : List Str) : List SV := ws.map fun w => SV.dat (.str w)
def tailP : FS := (fSeq (fIf (fTest (fBin (g2 (inD false)) (fVar 5) (fVar 3))) (fSeq (fSet 7 (fComp (.nm 8) (fRange range1 (fCons (fC (.int 676)) fNil)) fYes (fBin gAdd (fBin gIx (fVar 2) (fBin (g2 (dI iDiv)) (fVar 8) (fC (.int 26)))) (fBin gIx (fVar 2) (fBin (g2 (dI iMod)) (fVar 8) (fC (.int 26))))) [8]))
    (fSet 5 (fBin gIx (fComp (.nm 9) (fItems (fVar 7)) (fTest (fBin (g2 (inD true)) (fVar 9) (fVar 3))) (fVar 9) [9]) (fGo F__law_next [] (fCons (fVar 0) (fCons (fC (.int 600)) fNil)))))) fNext)
    (fAppend (fVar 3) (fVar 5)))
theorem tailP_eq : tailP = (fSeq (fIf (fTest (fBin (g2 (inD false)) (fVar 5) (fVar 3))) (fSeq (fSet 7 (fComp (.nm 8) (fRange range1 (fCons (fC (.int 676)) fNil)) fYes (fBin gAdd (fBin gIx (fVar 2) (fBin (g2 (dI iDiv)) (fVar 8) (fC (.int 26)))) (fBin gIx (fVar 2) (fBin (g2 (dI iMod)) (fVar 8) (fC (.int 26))))) [8]))
    (fSet 5 (fBin gIx (fComp (.nm 9) (fItems (fVar 7)) (fTest (fBin (g2 (inD true)) (fVar 9) (fVar 3))) (fVar 9) [9]) (fGo F__law_next [] (fCons (fVar 0) (fCons (fC (.int 600)) fNil)))))) fNext)
    (fAppend (fVar 3) (fVar 5))) := rfl
theorem pushed {ws : List Str} {w : Str} : sL ws ++ [.dat (.str w)] = sL (ws ++ [w]) := by simp
theorem two_get {k : Nat} (h : k < 676) : letters.cps.toList[k / 26]? = some (97 + k / 26) ∧ letters.cps.toList[k % 26]? = some (97 + k % 26) := by
  have : ∀ j < 26, letters.cps.toList[j]? = some (97 + j) := by decide +kernel
  exact ⟨this _ (by omega), this _ (Nat.mod_lt _ (by decide))⟩
theorem tail_ok {B m : Int} {x : SV} {y4 y6 y7 : Option SV} {w : Str} {ws : List Str} {P : SO → Prop} (hx : Dr B x) (hB : B < 2 ^ 45) (hl : ws.length ≤ 20) (hw : Wd w) (hs : ∀ w ∈ ws, Wd w)
    (h : ∀ w' x' y7, Wd w' → Dr (B + 1) x' → P (.nx ⟨[some (.cell 0), some (.dat (.int m)), some (.dat (.str letters)), some (.own (sL (ws ++ [w']))), y4, some (.dat (.str w')), y6, y7, none, none], [x']⟩)) :
    Ws tailP ⟨[some (.cell 0), some (.dat (.int m)), some (.dat (.str letters)), some (.own (sL ws)), y4, some (.dat (.str w)), y6, y7, none, none], [x]⟩ P := by
  unfold tailP
  have e1 : inD false (.str w) (.lst (ws.map D.str)) = some (.bl (xorB false (decide (w ∈ ws)))) := by
    rw [inD_sm (x := .str w) hw.2 (strs_sm fun y hy => (hs y hy).2) (by simp [D.dp]) (Nat.le_trans strs_dp (by decide)), inT_str]
  simp [e1, xorB]
  refine ⟨fun hin => ⟨small62_of (by decide) (by decide), ?_⟩, fun hin => ⟨by omega, ?_⟩⟩
  · refine ct_map (fun d => match d with | .int k => .dat (.str (two k.toNat)) | _ => .dat .non) (by simp) (fun d hd => ?_) ?_
    · obtain ⟨k, hk, rfl⟩ := mem_range hd
      have hk : k < 676 := hk
      obtain ⟨t1, t2⟩ := two_get hk
      have u1 : atI letters.cps.toList ((k : Int) / 26) = some (97 + k / 26) := by
        rw [atI_in (by omega) (by rw [letters_ok.1]; omega), show ((k : Int) / 26).toNat = k / 26 by omega]; exact t1
      have u2 : atI letters.cps.toList ((k : Int) % 26) = some (97 + k % 26) := by
        rw [atI_in (by omega) (by rw [letters_ok.1]; omega), show ((k : Int) % 26).toNat = k % 26 by omega]; exact t2
      have l3 := letters_ok.2.2
      simp [u1, u2, l3]
      exact ⟨by show 1 + 1 ≤ 1000000; decide, by unfold two; rfl⟩
    · have eg : (rangeL 0 676 1).map (fun d => match d with | .int k => SV.dat (.str (two k.toNat)) | _ => .dat .non) = ((List.range 676).map two).map fun w => SV.dat (.str w) := by
        unfold rangeL; rw [List.map_map, List.map_map]
        apply List.map_congr_left
        intro k _
        simp
      rw [eg]
      simp
      rw [show peeks (List.map ((fun w => SV.dat (D.str w)) ∘ two) (List.range 676)) = some ((List.range 676).map (D.str ∘ two)) from peeks_mapf (f := D.str ∘ two), ob_some]
      simp
      have lay2 : ∀ k : Nat, k < 676 → Wd (two k) := fun k hk => ⟨by show 2 ≤ 8; decide, by rw [lay_iff]; intro c hc; have hc : c ∈ [97 + k / 26, 97 + k % 26] := hc; simp only [List.mem_cons, List.not_mem_nil, or_false] at hc; omega⟩
      refine ct_filter (fun d => match d with | .str v => !decide (v ∈ ws) | _ => false) SV.dat (by rw [List.length_map, List.length_range]; decide) (fun d hd => ?_) ?_
      · obtain ⟨k, hk, rfl⟩ := List.mem_map.mp hd
        have hk : k < 676 := List.mem_range.mp hk
        have e2 : inD true (.str (two k)) (.lst (ws.map D.str)) = some (.bl (xorB true (decide (two k ∈ ws)))) := by
          rw [inD_sm (x := .str (two k)) (lay2 k hk).2 (strs_sm fun y hy => (hs y hy).2) (by simp [D.dp]) (Nat.le_trans strs_dp (by decide)), inT_str]
        simp [e2, xorB]
      · have ef : (((List.range 676).map (D.str ∘ two)).filter fun d => match d with | .str v => !decide (v ∈ ws) | _ => false) = (((List.range 676).map two).filter fun v => !decide (v ∈ ws)).map D.str := by
          rw [← List.map_map, List.filter_map]; rfl
        rw [ef]
        have many := rest_many (ws := ws)
        generalize hf : ((List.range 676).map two).filter (fun v => !decide (v ∈ ws)) = fs at many
        have hfs : ∀ v ∈ fs, Wd v := fun v hv => by
          rw [← hf] at hv
          obtain ⟨k, hk, rfl⟩ := List.mem_map.mp (List.mem_filter.mp hv).1
          exact lay2 k (List.mem_range.mp hk)
        simp
        refine next_ok hx (by omega) (by decide) fun r1 x1 a1 b1 d1 => ?_
        simp
        refine ob_ixN a1 (by omega) fun j hj => ?_
        obtain ⟨v, hv⟩ : ∃ v, fs[j]? = some v := ⟨_, List.getElem?_eq_getElem hj⟩
        simp [hv]
        have := h v x1 (some (.dat (.lst ((List.range 676).map (D.str ∘ two))))) (hfs v (List.mem_of_getElem? hv)) d1
        refine ⟨by omega, ?_⟩
        simpa using this
  · have := h w x y7 hw (hx.up (by omega))
    simpa using this
/-- the new word, in any case -/
theorem words_ok {B m : Int} {x : SV} {Q X} (hx : Dr B x) (hB : B < 2 ^ 40) (hm : 0 ≤ m ∧ m ≤ 20) (h : ∀ (ws : List Str) (x' : SV), (ws.length : Int) = m → (∀ w ∈ ws, Wd w) → Dr (B + 1000) x' → Q (.own (sL ws)) [x']) :
    Wf F__law_words [.cell 0, .dat (.int m)] [x] Q X := by
  unfold F__law_words fb__law_words
  rw [← tailP_eq]
  simp [wf_run]
  refine whileF_ind (m := m.toNat) (fun k S => ∃ ws x' y4 y5 y6 y7, S = ⟨[some (.cell 0), some (.dat (.int m)), some (.dat (.str letters)), some (.own (sL ws)), y4, y5, y6, y7, none, none], [x']⟩ ∧ ws.length + k = m.toNat ∧ (∀ w ∈ ws, Wd w) ∧ Dr (B + 40 * (ws.length : Int)) x')
    ⟨[], x, none, none, none, none, by simp, by simp, by simp, by simpa using hx⟩ (by omega) (fun k S hI => ?_)
  obtain ⟨ws, x', y4, y5, y6, y7, rfl, hk, hw, hd⟩ := hI
  simp
  refine ⟨fun hlt => ?_, fun hge => ?_⟩
  · refine next_ok hd (by omega) (by decide) fun r1 x1 a1 b1 d1 => ?_
    simp
    refine next_ok d1 (by omega) (by decide) fun r2 x2 a2 b2 d2 => ?_
    simp
    refine next_ok d2 (by omega) (by decide) fun r3 x3 a3 b3 d3 => ?_
    simp
    refine ob_ixN a3 (by simpa using b3) fun j hj => ?_
    obtain ⟨sz, hsz, e⟩ : ∃ sz : Int, (0 ≤ sz ∧ sz ≤ 8) ∧ ([SV.dat (.int (1 + r1)), .dat (.int (1 + r2)), .dat (.int 8)] : List SV)[j]? = some (.dat (.int sz)) := by
      match j, hj with
      | 0, _ => exact ⟨1 + r1, by omega, rfl⟩
      | 1, _ => exact ⟨1 + r2, by omega, rfl⟩
      | 2, _ => exact ⟨8, by omega, rfl⟩
    simp [e]
    refine ⟨small62_of (by omega) (by omega), ?_⟩
    refine ct_ind (fun i acc μ => ∃ ys x', acc = sL ys ∧ ys.length = i ∧ (∀ y ∈ ys, y.length = 1 ∧ PyData.canLay0 (.str y) = true) ∧ μ = [x'] ∧ Dr (B + 40 * (ws.length : Int) + 3 + (i : Int)) x') (by rw [range_len]; omega)
      ⟨[], x3, rfl, rfl, by simp, rfl, by simpa [Int.add_assoc] using d3⟩ (fun i d acc μ hd hI => ?_) (fun acc μ hI => ?_)
    · obtain ⟨ys, x4, rfl, rfl, hys, rfl, d4⟩ := hI
      have hi := (List.getElem?_eq_some_iff.mp hd).1
      rw [range_len] at hi
      simp
      refine next_ok d4 (by omega) (by decide) fun r x5 a b d5 => ?_
      simp [letters_ok.2.2]
      refine ob_at a (by rw [letters_ok.1]; exact b) fun c hc => ?_
      have hc2 := letters_ok.2.1 c hc
      simp
      refine ⟨ys ++ [⟨#[c]⟩], by simp, by simp, fun y hy => ?_, d5.up (by omega)⟩
      rcases List.mem_append.mp hy with hy | hy
      · exact hys y hy
      · rw [List.mem_singleton.mp hy]; exact ⟨rfl, lay1 hc2⟩
    · obtain ⟨ys, x4, rfl, hyl, hys, rfl, d4⟩ := hI
      rw [range_len] at hyl d4
      have hj : PyData.canLay0 (.str (Txt.join (Str.ofString "") ys)) = true := join_lay fun y hy => (hys y hy).2
      have hjl : (Txt.join (Str.ofString "") ys).length = ys.length := join_len fun y hy => (hys y hy).1
      have wj : Wd (Txt.join (Str.ofString "") ys) := ⟨by omega, hj⟩
      have sum1 : (ys.map fun y => y.length).sum = ys.length := by
        clear hj hjl wj hyl d4
        induction ys with
        | nil => rfl
        | cons y ys ih => rw [List.map_cons, List.sum_cons, (hys y (by simp)).1, ih fun z hz => hys z (by simp [hz]), List.length_cons]; omega
      simp [sum1, show (Str.ofString "").length = 0 by decide]
      refine ⟨by omega, ?_⟩
      refine next_ok d4 (by omega) (by decide) fun r5 x5 a5 b5 d5 => ?_
      simp
      have fin : ∀ (w' : Str) (x' : SV) (y4 y5 y6 y7 : Option SV), Wd w' → Dr (B + 40 * (ws.length : Int) + 40) x' → ∃ m', m' < k ∧ ∃ ws1 x'' z4 z5 z6 z7, (⟨[some (.cell 0), some (.dat (.int m)), some (.dat (.str letters)), some (.own (sL (ws ++ [w']))), y4, y5, y6, y7, none, none], [x']⟩ : Sto) = ⟨[some (.cell 0), some (.dat (.int m)), some (.dat (.str letters)), some (.own (sL ws1)), z4, z5, z6, z7, none, none], [x'']⟩ ∧ ws1.length + m' = m.toNat ∧ (∀ w ∈ ws1, Wd w) ∧ Dr (B + 40 * (ws1.length : Int)) x'' := fun w' x' y4 y5 y6 y7 hw' hd' =>
        ⟨k - 1, by omega, ws ++ [w'], x', y4, y5, y6, y7, rfl, by rw [List.length_append]; simp; omega, fun w hwm => by
          rcases List.mem_append.mp hwm with hwm | hwm
          · exact hw w hwm
          · rw [List.mem_singleton.mp hwm]; exact hw', hd'.up (by rw [List.length_append]; simp; omega)⟩
      refine ⟨fun h0 => ⟨⟨by decide, by decide +kernel⟩, ?_⟩, fun h0 => ?_⟩
      · refine next_ok d5 (by omega) (by decide) fun r6 x6 a6 b6 d6 => ?_
        simp
        refine ob_ixN a6 (by rw [ten_ok.1]; exact b6) fun j hj => ?_
        obtain ⟨v, hv⟩ : ∃ v, (Txt.split tenWords " ")[j]? = some v := ⟨_, List.getElem?_eq_getElem hj⟩
        simp [hv]
        exact tail_ok d6 (by omega) (by omega) (ten_ok.2 v (List.mem_of_getElem? hv)) hw fun w' x' z7 hw' hd' => fin w' x' _ _ _ _ hw' (hd'.up (by omega))
      · exact tail_ok d5 (by omega) (by omega) wj hw fun w' x' z7 hw' hd' => by
          obtain ⟨m', k1, ws1, x'', z4, z5, z6, z7, e, k2, k3, k4⟩ := fin w' x' (some (.dat (.int sz))) (some (.dat (.str w'))) y6 z7 hw' (hd'.up (by omega))
          exact ⟨m', k1, ws1, x'', ⟨z4, z5, z6, z7, e⟩, k2, k3, k4⟩
  · refine h ws x' (by omega) hw (hd.up (by omega))
end FL

namespace FL
open PySem PySem.Spec PyProof.Rows L2 L3
theorem eq_nil {rs : List Str} (h : ∀ w ∈ rs, Wd w) : eqD (.lst (rs.map D.str)) (.lst []) = some (decide (rs = [])) := by
  rw [eqD_sm (a := .lst (rs.map D.str)) (b := .lst []) (strs_sm fun y hy => (h y hy).2) (by simp [D.sm, smL]) (by have := strs_dp (ys := rs); simp [D.dp]; omega) (by simp [D.dp, dpL])]
  cases rs <;> simp [L3.eqT, pyOf, pysOf, PyData.eqv, PyData.eqvAll]
/-- two marks next to each other -/
def Way (d : D) : Prop := ∃ a b, Wd a ∧ Wd b ∧ d = .tup [.str a, .str b]
theorem ways_sm {ws : List D} (h : ∀ d ∈ ws, Way d) : smL ws ∧ dpL ws ≤ 1 := by
  refine ⟨smL_iff.mpr fun d hd => ?_, dpL_le fun d hd => ?_⟩
  · obtain ⟨a, b, ha, hb, rfl⟩ := h d hd
    exact ⟨ha.2, hb.2, trivial⟩
  · obtain ⟨a, b, ha, hb, rfl⟩ := h d hd
    simp [D.dp, dpL]
theorem section_ok {B : Int} {n : Str} {pool : List Str} {x : SV} {Q X} (hx : Dr B x) (hB : B < 2 ^ 40) (hn : Wd n) (hp : 0 < pool.length ∧ pool.length ≤ 20) (hpw : ∀ w ∈ pool, Wd w) (h : ∀ d ms Rw x', Sec d n ms Rw → Dr (B + 200) x' → Q (.dat d) [x']) :
    Wf F__law_section [.cell 0, .dat (.str n), .dat (.lst (pool.map D.str))] [x] Q X := by
  unfold F__law_section fb__law_section
  simp [wf_run]
  refine next_ok hx (by omega) (by decide) fun r1 x1 a1 b1 d1 => ?_
  simp
  refine next_ok d1 (by omega) (by decide) fun r2 x2 a2 b2 d2 => ?_
  simp
  refine next_ok d2 (by omega) (by decide) fun r3 x3 a3 b3 d3 => ?_
  simp
  refine ob_ixN a3 (by simpa using b3) fun j hj => ?_
  obtain ⟨many, hmany, e⟩ : ∃ sz : Int, (0 ≤ sz ∧ sz ≤ 8) ∧ ([SV.dat (.int (2 + r1)), .dat (.int (2 + r2)), .dat (.int 8)] : List SV)[j]? = some (.dat (.int sz)) := by
    match j, hj with
    | 0, _ => exact ⟨2 + r1, by omega, rfl⟩
    | 1, _ => exact ⟨2 + r2, by omega, rfl⟩
    | 2, _ => exact ⟨8, by omega, rfl⟩
  simp [e]
  refine next_ok d3 (by omega) (by omega) fun r4 x4 a4 b4 d4 => ?_
  simp
  refine ob_at a4 b4 fun m0 hm0 => ?_
  simp
  refine whileF_ind (m := 2 * 8) (fun k S => ∃ ms ws rs y6 x', S = ⟨[some (.cell 0), some (.dat (.str n)), some (.dat (.lst (pool.map D.str))), some (.dat (.int many)), some (.own (sL ms)), some (.own (ws.map SV.dat)), some y6, none, none], [x']⟩ ∧ y6.peek = some (.lst (rs.map D.str)) ∧ 2 * (8 - ms.length) + (if rs = [] then 0 else 1) ≤ k ∧ 0 < ms.length ∧ ms.length ≤ 8 ∧ (∀ w ∈ ms, Wd w) ∧ (∀ w ∈ rs, Wd w) ∧ (∀ d ∈ ws, Way d) ∧ ws.length ≤ 2 * ms.length ∧ Dr (B + 4 + (ms.length : Int)) x')
    ⟨[m0], [], pool, .dat (.lst (pool.map D.str)), x4, by simp, rfl, by simp; split <;> omega, by simp, by simp, by simpa using hpw m0 hm0, hpw, by simp, by simp, d4.up (by simp; omega)⟩ (by omega) (fun k S hI => ?_)
  obtain ⟨ms, ws, rs, y6, x', rfl, hy, hk, l1, l2, hms, hrs, hws, lws, hd⟩ := hI
  obtain ⟨L, hL⟩ : ∃ L, ms.length = L + 1 := ⟨ms.length - 1, by omega⟩
  obtain ⟨last, hlast⟩ : ∃ last, ms[L]? = some last := ⟨_, List.getElem?_eq_getElem (by omega)⟩
  have wl : Wd last := hms last (List.mem_of_getElem? hlast)
  have neg1 : ixN ms.length (-1) = some L := by rw [hL]; exact ixN_neg1
  simp [hy, eq_nil hrs]
  refine ⟨fun hlt => ⟨fun hnil => ⟨small62_of (by omega) (by omega), ?a⟩, fun hne => ?b⟩, fun hge => ⟨small62_of (by omega) (by omega), ?c⟩⟩
  case b =>
    refine ct_filter (fun d => match d with | .str v => (!decide (v = last)) && !inT (.tup [.str last, .str v]) ws | _ => false) SV.dat (by rw [List.length_map]; omega) (fun d hd' => ?_) ?_
    · obtain ⟨v, hv, rfl⟩ := List.mem_map.mp hd'
      have e2 : inD true (.tup [.str last, .str v]) (.lst ws) = some (.bl (xorB true (inT (.tup [.str last, .str v]) ws))) :=
        inD_sm (x := .tup [.str last, .str v]) ⟨wl.2, (hpw v hv).2, trivial⟩ (ways_sm hws).1 (by simp [D.dp, dpL]) (Nat.le_trans (ways_sm hws).2 (by decide))
      simp [neg1, hlast]
      refine ⟨fun hc => by simp [hc], fun hc => ?_⟩
      simp [neg1, hlast, e2, xorB, hc]
      cases inT (.tup [.str last, .str v]) ws <;> simp
    · have ef : ((pool.map D.str).filter fun d => match d with | .str v => (!decide (v = last)) && !inT (.tup [.str last, .str v]) ws | _ => false) = (pool.filter fun v => (!decide (v = last)) && !inT (.tup [.str last, .str v]) ws).map D.str := by
        rw [List.filter_map]; rfl
      rw [ef]
      generalize hf : (pool.filter fun v => (!decide (v = last)) && !inT (.tup [.str last, .str v]) ws) = fs
      have hfs : ∀ v ∈ fs, Wd v := fun v hv => by rw [← hf] at hv; exact hpw v (List.mem_filter.mp hv).1
      have lfs : fs.length ≤ 20 := by rw [← hf]; exact Nat.le_trans (List.length_filter_le _ _) hp.2
      simp [eq_nil hfs]
      refine ⟨fun hnil => ?_, fun hne2 => ?_⟩
      · rw [if_neg hne] at hk
        exact ⟨k - 1, by omega, ms, ws, fs, .own (sL fs), x', ⟨⟨rfl, rfl, rfl⟩, rfl⟩, by simp, by rw [if_pos hnil]; omega, l1, l2, hms, hfs, hws, lws, hd⟩
      · have lpos : 0 < fs.length := by
          cases fs with
          | nil => exact absurd rfl hne2
          | cons => simp
        refine next_ok hd (by omega) (by omega) fun r5 x5 a5 b5 d5 => ?_
        simp
        refine ob_ixN a5 b5 fun j hj => ?_
        obtain ⟨v, hv⟩ : ∃ v, fs[j]? = some v := ⟨_, List.getElem?_eq_getElem hj⟩
        have wv := hfs v (List.mem_of_getElem? hv)
        have n1 : ixN (ms.length + 1) (-1) = some ms.length := ixN_neg1
        have n2 : ixN (ms.length + 1) (-2) = some L := by rw [hL]; exact ixN_neg2
        have g1 : (sL ms ++ [SV.dat (.str v)])[ms.length]? = some (.dat (.str v)) := by rw [List.getElem?_append_right (by simp)]; simp
        have g2 : (sL ms ++ [SV.dat (.str v)])[L]? = some (.dat (.str last)) := by rw [List.getElem?_append_left (by simp; omega)]; simp [hlast]
        simp [hv, n1, n2, g1, g2]
        rw [if_neg hne] at hk
        refine ⟨by omega, by omega, k - 1, by omega, ms ++ [v], ws ++ [.tup [.str last, .str v], .tup [.str v, .str last]], fs, .own (sL fs), x5, ⟨⟨by simp, by simp, rfl⟩, rfl⟩, by simp, by rw [if_neg hne2, List.length_append]; simp; omega, by simp, by rw [List.length_append]; simp; omega, fun w hw => ?_, hfs, fun d hd => ?_, by rw [List.length_append, List.length_append]; simp; omega, d5.up (by rw [List.length_append]; simp; omega)⟩
        · rcases List.mem_append.mp hw with hw | hw
          · exact hms w hw
          · rw [List.mem_singleton.mp hw]; exact wv
        · rcases List.mem_append.mp hd with hd | hd
          · exact hws d hd
          · simp only [List.mem_cons, List.not_mem_nil, or_false] at hd
            rcases hd with rfl | rfl
            · exact ⟨_, _, wl, wv, rfl⟩
            · exact ⟨_, _, wv, wl, rfl⟩
  all_goals
    refine ct_ind (fun i acc μ => ∃ Rw x'', acc = Rw.map (fun t => SV.dat (enc t)) ∧ Rw.length = i ∧ (∀ t ∈ Rw, RowOk t) ∧ μ = [x''] ∧ Dr (B + 4 + (ms.length : Int) + 4 * (i : Int)) x'') (by rw [range_len]; omega) ⟨[], x', rfl, rfl, by simp, rfl, by simpa using hd⟩ (fun i d acc μ hd' hI => ?_) (fun acc μ hI => ?_)
    · obtain ⟨Rw, x5, rfl, rfl, hRw, rfl, d5⟩ := hI
      have hi := (List.getElem?_eq_some_iff.mp hd').1
      rw [range_len] at hi
      simp
      refine stretch_ok d5 (by omega) fun t x6 ht d6 => ?_
      simp
      refine ⟨Rw ++ [t], by simp, by simp, fun u1 u2 u3 hu => ?_, d6.up (by omega)⟩
      rcases List.mem_append.mp hu with hu | hu
      · exact hRw _ hu
      · rw [List.mem_singleton.mp hu]; exact ht
    · obtain ⟨Rw, x5, rfl, hRl, hRw, rfl, d5⟩ := hI
      rw [range_len] at hRl d5
      simp
      exact h _ ms Rw x5 ⟨rfl, by omega, by omega, hn, hms, hRw⟩ (d5.up (by omega))
end FL

namespace L3
open PySem PySem.Spec PyProof.Rows L2

/-! ### the further functions, for simp -/
section
variable {S S' : Sto} {Q : R → Sto → Prop} {QI : List D → Sto → Prop} {X : Ex → Sto → Prop} {P : SO → Prop} {fe fo : FE} {fA : FA} {i j : Nat} {p : List Nat} {d : D} {ds es : List D} {ρ : List (Option SV)} {μ : List SV} {ra rb r : R} {kk : R → Sto → Prop} {x : SV} {xs : List SV} {n : Nd}
@[simp] theorem wb_mov : Wb (fMov i) ⟨ρ, μ⟩ Q X = Ob (ρ[i]?) fun o => Ob o fun x => Q (.val x) ⟨ρ.set i none, μ⟩ := by
  unfold Wb fMov
  cases e : ρ[i]? with
  | none => simp [e]
  | some o => cases o <;> simp [e]
@[simp] theorem isN_non : SV.isN (.dat .non) = true := rfl
@[simp] theorem isN_int {z : Int} : SV.isN (.dat (.int z)) = false := rfl
@[simp] theorem isN_str {z : Str} : SV.isN (.dat (.str z)) = false := rfl
@[simp] theorem isN_bl {z : Bool} : SV.isN (.dat (.bl z)) = false := rfl
@[simp] theorem isN_tup : SV.isN (.dat (.tup ds)) = false := rfl
@[simp] theorem isN_lst : SV.isN (.dat (.lst ds)) = false := rfl
@[simp] theorem isN_node : SV.isN (.node n xs) = false := rfl
@[simp] theorem isN_dK {ks : List Key} : SV.isN (.dat (.dK ks ds)) = false := rfl
@[simp] theorem s_gIsF : Gb (gIs false ra rb S) kk = Ob (ra.sv S) fun a => Ob (rb.sv S) fun b => b = .dat .non ∧ kk (.b a.isN) S := by
  unfold gIs
  cases ra.sv S with
  | none => simp
  | some a =>
    cases rb.sv S with
    | none => simp
    | some b => cases b with
      | dat d => cases d <;> simp
      | _ => simp
@[simp] theorem s_gIsT : Gb (gIs true ra rb S) kk = Ob (ra.sv S) fun a => Ob (rb.sv S) fun b => b = .dat .non ∧ kk (.b (!a.isN)) S := by
  unfold gIs
  cases ra.sv S with
  | none => simp
  | some a =>
    cases rb.sv S with
    | none => simp
    | some b => cases b with
      | dat d => cases d <;> simp
      | _ => simp
@[simp] theorem bools_map {bs : List Bool} : bools (bs.map D.bl) = some bs := by
  induction bs with
  | nil => rfl
  | cons b bs ih => show (bools (bs.map D.bl)).map _ = _; rw [ih]; rfl
@[simp] theorem bools_mapf {α : Type} {f : α → Bool} {l : List α} : bools (l.map fun t => D.bl (f t)) = some (l.map f) := by
  have := bools_map (bs := l.map f); rwa [List.map_map] at this
@[simp] theorem bools_comp {α : Type} {f : α → Bool} {l : List α} : bools (l.map (D.bl ∘ f)) = some (l.map f) := bools_mapf
@[simp] theorem s_anyD : anyD [.lst ds] = (bools ds).map fun bs => .bl (bs.any id) := rfl
@[simp] theorem s_allD : allD [.lst ds] = (bools ds).map fun bs => .bl (bs.all id) := rfl
@[simp] theorem s_absD {z : Int} : absD [.int z] = some (.int (if z < 0 then -z else z)) := rfl
@[simp] theorem s_gSortS : Gb (gSortS [r] S) kk = Ob (r.peek S) fun d => match d with
    | .lst ds => Ob (strsD ds) fun ys => ys.length < 64 ∧ kk (.val (.own ((sortStrs ys).map fun z => .dat (.str z)))) S
    | _ => False := by
  unfold gSortS
  show Gb (match (r.peek S).bind (fun d => some [d]) with | some [.lst ds] => (strsD ds).bind fun ys => if ys.length < 64 then some (.val (.own ((sortStrs ys).map fun z => .dat (.str z))), S) else none | _ => none) kk = _
  cases r.peek S with
  | none => simp
  | some d => cases d with
    | lst ds => simp only [Option.bind_some, ob_some]; cases strsD ds <;> simp
    | _ => simp
@[simp] theorem s_gDict : Gb (gDict [r] S) kk = Ob (r.its S) fun td => td.1 = false ∧ Ob (pairsD td.2) fun kds => kk (.val (.node (.dK (mkD [] [] kds).1) ((mkD [] [] kds).2.map SV.dat))) S := by
  unfold gDict
  dsimp only
  cases r.its S with
  | none => simp
  | some td => obtain ⟨t, ds⟩ := td; cases t <;> simp
@[simp] theorem wb_dget1 : Wb (fDGet1 fo fe) S Q X = Wb fo S (fun ro S1 => ((ro.sv S1).map fun x => x.isD S1) = some true ∧ Wb fe S1 (fun re S2 => Ob (re.peek S2) fun k => Ob (dgetR ro k S2) fun o => Q (o.getD (.d .non)) S2) X) X := by
  unfold fDGet1; rw [wb_bind]; refine wb_ext fun ro S1 => ?_
  by_cases h : ((ro.sv S1).map fun x => x.isD S1) = some true
  · have e2 : Wb (fun S1 => if ((ro.sv S1).map fun x => x.isD S1) = some true then bindE fe (fun re S2 => (re.peek S2).bind fun k => (dgetR ro k S2).map fun o => Out.ok (o.getD (.d .non)) S2) S1 else none) S1 Q X = Wb (bindE fe (fun re S2 => (re.peek S2).bind fun k => (dgetR ro k S2).map fun o => Out.ok (o.getD (.d .non)) S2)) S1 Q X := by unfold Wb; simp [h]
    rw [e2, wb_bind]
    simp only [h, true_and]
    refine wb_ext fun re S2 => ?_
    unfold Wb
    cases e : re.peek S2 with
    | none => simp [e]
    | some k => cases e3 : dgetR ro k S2 <;> simp [e, e3]
  · unfold Wb; simp [h]
@[simp] theorem s_isD_dK {ks : List Key} : SV.isD S (.node (.dK ks) xs) = true := rfl
@[simp] theorem s_isD_dT {ks : List (List Key)} : SV.isD S (.node (.dT ks) xs) = true := rfl
@[simp] theorem s_isD_DK {ks : List Key} : SV.isD S (.dat (.dK ks ds)) = true := rfl
@[simp] theorem s_isD_DT {ks : List (List Key)} : SV.isD S (.dat (.dT ks ds)) = true := rfl
@[simp] theorem s_dgetR {k : D} {k2 : Option R → Prop} : Ob (dgetR ra k S) k2 = Ob (ra.sv S) fun x => Ob (dgX ra k S x) k2 := by unfold dgetR; cases ra.sv S <;> simp
@[simp] theorem s_dget_dK {ks : List Key} {k : D} : SV.dget S (.dat (.dK ks ds)) k = nget (.dK ks) (ds.map SV.dat) k := rfl
@[simp] theorem s_dget_dT {ks : List (List Key)} {k : D} : SV.dget S (.dat (.dT ks ds)) k = nget (.dT ks) (ds.map SV.dat) k := rfl
@[simp] theorem s_pk_dT {ks : List (List Key)} : (SV.node (.dT ks) xs).peek = (peeks xs).map (D.dT ks) := rfl
@[simp] theorem s_pushAt : pushAt (.bor i p) x ⟨ρ, μ⟩ = (ρ[i]?).bind fun o => o.bind fun y => (y.sub p).bind fun z => match z with
    | .node .lst xs => if xs.length < 1000000 then some (⟨ρ.set i (some (y.putp p (.own (xs ++ [x])))), μ⟩ : Sto) else none
    | _ => none := by
  unfold pushAt
  dsimp only
  rw [s_sub]
  cases e : ρ[i]? with
  | none => rfl
  | some o =>
    cases o with
    | none => rfl
    | some y =>
      simp only [Option.bind_some]
      cases e2 : y.sub p with
      | none => rfl
      | some z =>
        cases z with
        | node n xs => cases n <;> simp [Sto.putp, e]
        | _ => rfl
@[simp] theorem s_itl_val : R.itl S (.val x) = match x with
    | .dat (.lst ds) => some ds
    | .node .lst xs => peeks xs
    | _ => none := by
  unfold R.itl
  cases x with
  | dat d => cases d <;> rfl
  | node n xs => cases n <;> rfl
  | cell c => rfl
def SV.itl : SV → Option (List D)
  | .dat (.lst ds) => some ds
  | .node .lst xs => dats xs
  | _ => none
@[simp] theorem s_itl_bor : R.itl S (.bor i p) = (S.sub i p).bind SV.itl := by
  unfold R.itl
  rw [s_sv_bor]
  cases S.sub i p with
  | none => rfl
  | some x => cases x with
    | dat d => cases d <;> rfl
    | node n xs => cases n <;> rfl
    | cell c => rfl
@[simp] theorem itl_dl : SV.itl (.dat (.lst ds)) = some ds := rfl
@[simp] theorem itl_n : SV.itl (.node .lst xs) = dats xs := rfl
@[simp] theorem s_extAt : extAt (.bor i p) ds ⟨ρ, μ⟩ = (ρ[i]?).bind fun o => o.bind fun y => (y.sub p).bind fun z => match z with
    | .node .lst xs => if xs.length + ds.length ≤ 1000000 then some (⟨ρ.set i (some (y.putp p (.own (xs ++ ds.map SV.dat)))), μ⟩ : Sto) else none
    | _ => none := by
  unfold extAt
  dsimp only
  rw [s_sub]
  cases e : ρ[i]? with
  | none => rfl
  | some o =>
    cases o with
    | none => rfl
    | some y =>
      simp only [Option.bind_some]
      cases e2 : y.sub p with
      | none => rfl
      | some z =>
        cases z with
        | node n xs => cases n <;> simp [Sto.putp, e]
        | _ => rfl
@[simp] theorem ws_extend : Ws (fExtend fo fe) S P = Wb fo S (fun ro S1 => Ob (ro.sv S1) fun x => match x with
    | .node .lst _ => Wb fe S1 (fun re S2 => Ob (re.itl S2) fun ds => Ob (extAt ro ds S2) fun S3 => P (.nx S3)) (fun e S1 => P (.exc e S1))
    | _ => False) (fun e S1 => P (.exc e S1)) := by
  unfold fExtend; rw [ws_bind]; refine wb_ext fun ro S1 => ?_
  cases ex : ro.sv S1 with
  | none => unfold Ws; simp [ex]
  | some x =>
    cases x with
    | dat d => unfold Ws; simp [ex]
    | cell c => unfold Ws; simp [ex]
    | node n xs =>
      cases n with
      | lst =>
        simp only [ob_some]
        have e : Ws (fun S1 => match ro.sv S1 with
          | some (.node .lst _) => bindS fe (fun re S2 => match re.itl S2 with
            | some ds => (extAt ro ds S2).map SO.nx
            | none => none) S1
          | _ => none) S1 P = Ws (bindS fe (fun re S2 => match re.itl S2 with
            | some ds => (extAt ro ds S2).map SO.nx
            | none => none)) S1 P := by unfold Ws; simp [ex]
        refine e.trans ?_; rw [ws_bind]; refine wb_ext fun re S2 => ?_; unfold Ws
        cases ek : re.itl S2 with
        | none => simp [ek]
        | some ds => cases e2 : extAt ro ds S2 <;> simp [ek, e2]
      | _ => unfold Ws; simp [ex]
@[simp] theorem ws_augA : Ws (fAugA i fe) ⟨ρ, μ⟩ P = Ob (ρ[i]?) fun o => match o with
    | some (.node .lst _) => Wb fe ⟨ρ, μ⟩ (fun re S1 => Ob (re.itl S1) fun ds => Ob (extAt (.bor i []) ds S1) fun S2 => P (.nx S2)) (fun e S1 => P (.exc e S1))
    | _ => Ws (fAug i gAdd2 fe) ⟨ρ, μ⟩ P := by
  cases e0 : ρ[i]? with
  | none => unfold Ws fAugA fAug; simp [e0]
  | some o =>
    have gen : ∀ {f : FS}, (fAugA i fe ⟨ρ, μ⟩ = f ⟨ρ, μ⟩) → Ws (fAugA i fe) ⟨ρ, μ⟩ P = Ws f ⟨ρ, μ⟩ P := fun h => by unfold Ws; rw [h]
    simp only [ob_some]
    cases o with
    | none => exact gen (by unfold fAugA; simp only [e0])
    | some x =>
      cases x with
      | dat d => exact gen (by unfold fAugA; simp only [e0])
      | cell c => exact gen (by unfold fAugA; simp only [e0])
      | node n xs =>
        cases n with
        | lst =>
          rw [gen (f := bindS fe (fun re S1 => match re.itl S1 with
            | some ds => (extAt (.bor i []) ds S1).map SO.nx
            | none => none)) (by unfold fAugA; simp only [e0] <;> rfl), ws_bind]
          dsimp only
          refine wb_ext fun re S1 => ?_
          unfold Ws
          cases ek : re.itl S1 with
          | none => simp [ek]
          | some ds => cases e2 : extAt (.bor i []) ds S1 <;> simp [ek, e2]
        | _ => exact gen (by unfold fAugA; simp only [e0])
@[simp] theorem wb_zipS : Wb (fZipS fA) S QI X = Wb fA S (fun rs S1 => Gb (escs rs S1) fun l S2 => match l with
    | [x, y] => Ob (seqD x) fun ds => Ob (seqD y) fun es => ds.length = es.length ∧ QI ((ds.zip es).map pair2) S2
    | _ => False) X := by
  unfold fZipS; rw [wb_bind]; refine wb_ext fun rs S1 => ?_
  unfold Wb
  cases e : escs rs S1 with
  | none => simp [e]
  | some z =>
    obtain ⟨l, S2⟩ := z
    match l with
    | [] => simp [e]
    | [_] => simp [e]
    | _ :: _ :: _ :: _ => simp [e]
    | [x, y] =>
      cases e1 : seqD x with
      | none => simp [e, e1]
      | some ds =>
        cases e2 : seqD y with
        | none => simp [e, e1, e2]
        | some es => by_cases h : ds.length = es.length <;> simp [e, e1, e2, h]
@[simp] theorem wb_enum : Wb (fEnum fA) S QI X = Wb fA S (fun rs S1 => Gb (escs rs S1) fun l S2 => match l with
    | [x] => Ob (seqD x) fun ds => QI (enumD ds) S2
    | _ => False) X := by
  unfold fEnum; rw [wb_bind]; refine wb_ext fun rs S1 => ?_
  unfold Wb
  cases e : escs rs S1 with
  | none => simp [e]
  | some z =>
    obtain ⟨l, S2⟩ := z
    match l with
    | [] => simp [e]
    | _ :: _ :: _ => simp [e]
    | [x] => cases e1 : seqD x <;> simp [e, e1]
@[simp] theorem seqD_l : seqD (.lst ds) = some ds := rfl
@[simp] theorem seqD_t : seqD (.tup ds) = some ds := rfl
@[simp] theorem seqD_kt : seqD (.kt ds) = some ds := rfl
@[simp] theorem wb_rev : Wb (fRev fe) S Q X = Wb fe S (fun r S1 => Gb (r.its S1) fun t ds => if t = true then Q (.d (.tup ds.reverse)) S1 else Q (.val (.own (ds.reverse.map SV.dat))) S1) X := by
  unfold fRev; rw [wb_bind]; refine wb_ext fun r S1 => ?_
  unfold Wb gRev
  cases e : r.its S1 with
  | none => simp [e]
  | some td => obtain ⟨t, ds⟩ := td; cases t <;> simp [e]
end
/-! ### walks, told by what is walked -/
section
variable {α : Type} {xs : List α} {e : α → D} {tg : Tg} {f : FS} {S : Sto} {P : SO → Prop}
theorem forL_ind (I : List α → Sto → Prop) (h0 : I [] S) (step : ∀ pre x post S, xs = pre ++ x :: post → I pre S → Ob (tgS tg (e x) S.ρ) fun ρ => Ws f ⟨ρ, S.μ⟩ fun o => match o with
    | .nx S1 => I (pre ++ [x]) S1
    | .ct S1 => I (pre ++ [x]) S1
    | .bk S1 => P (.nx S1)
    | o => P o) (hend : ∀ S, I xs S → P (.nx S)) : Ws (forF tg f (xs.map e)) S P := by
  refine forF_ind (fun i S => I (xs.take i) S) (by simpa using h0) (fun i d S hd hI => ?_) (fun S hI => hend S (by rwa [List.length_map, List.take_length] at hI))
  rw [List.getElem?_map] at hd
  cases ex : xs[i]? with
  | none => rw [ex] at hd; cases hd
  | some x =>
    rw [ex] at hd; cases hd
    have et : xs.take (i + 1) = xs.take i ++ [x] := by rw [List.take_add_one, ex]; rfl
    have es : xs = xs.take i ++ x :: xs.drop (i + 1) := by
      conv => lhs; rw [← List.take_append_drop i xs]
      congr 1
      exact List.drop_eq_getElem?_toList_append .. |>.trans (by rw [ex]; rfl)
    have q := step (xs.take i) x (xs.drop (i + 1)) S es hI
    rwa [← et] at q
end
section
variable {α : Type} {xs : List α} {e : α → D} {tg : Tg} {ft : FT} {fe : FE} {vs : List Nat} {S : Sto} {Q : R → Sto → Prop}
theorem ctL_filter (p : α → Bool) (g : α → SV) (hl : xs.length ≤ 1000000) (h : ∀ x ∈ xs, Ob (tgS tg (e x) (S.wipe vs).ρ) fun ρ => Wb ft ⟨ρ, S.μ⟩ (fun b S1 => b = p x ∧ br b (Wb fe S1 (fun y S2 => Gb (y.kid S2) fun z S3 => z = g x ∧ S3.wipe vs = S.wipe vs) fun _ _ => False) (S1.wipe vs = S.wipe vs)) fun _ _ => False)
    (hq : Q (.val (.own ((xs.filter p).map g))) (S.wipe vs)) : fCompTail tg ft fe vs (xs.map e) S Q := by
  unfold fCompTail
  refine compF_ind (fun i acc S1 => acc = ((xs.take i).filter p).map g ∧ S1 = S.wipe vs) ⟨by simp, rfl⟩ (fun i d acc S1 hd hI => ?_) (fun acc S1 hI => ?_)
  · obtain ⟨rfl, rfl⟩ := hI
    rw [List.getElem?_map] at hd
    cases ex : xs[i]? with
    | none => rw [ex] at hd; cases hd
    | some x =>
      rw [ex] at hd; cases hd
      have hi := (List.getElem?_eq_some_iff.mp ex).1
      have et : xs.take (i + 1) = xs.take i ++ [x] := by rw [List.take_add_one, ex]; rfl
      obtain ⟨ρ, e1, r, e2, q⟩ := h x (List.mem_of_getElem? ex)
      refine ⟨ρ, e1, r, e2, ?_⟩
      cases r with
      | exc e S1 => exact q
      | ok b S1 =>
        obtain ⟨eb, q⟩ := q
        cases b with
        | true =>
          simp only [br_t] at q ⊢
          refine wb_mono q (fun y S2 hy => ?_) fun _ _ h => h
          obtain ⟨z, S3, e3, rfl, e4⟩ := hy
          refine ⟨_, S3, e3, ?_, ?_, e4⟩
          · rw [List.length_map]
            have h1 := List.length_filter_le p (xs.take i)
            rw [List.length_take] at h1
            omega
          · rw [et, List.filter_append, List.map_append]; simp [← eb]
        | false =>
          simp only [br_f] at q ⊢
          exact ⟨by rw [et, List.filter_append, List.map_append]; simp [← eb], q⟩
  · obtain ⟨rfl, rfl⟩ := hI
    rw [List.length_map, List.take_length]; exact hq
theorem ctL_map (g : α → SV) (hl : xs.length ≤ 1000000) (h : ∀ x ∈ xs, Ob (tgS tg (e x) (S.wipe vs).ρ) fun ρ => Wb fe ⟨ρ, S.μ⟩ (fun y S2 => Gb (y.kid S2) fun z S3 => z = g x ∧ S3.wipe vs = S.wipe vs) fun _ _ => False)
    (hq : Q (.val (.own (xs.map g))) (S.wipe vs)) : fCompTail tg fYes fe vs (xs.map e) S Q := by
  refine ctL_filter (fun _ => true) g hl (fun x hx => ?_) (by rw [show xs.filter (fun _ => true) = xs from List.filter_eq_self.mpr (fun _ _ => rfl)]; exact hq)
  obtain ⟨ρ, e, q⟩ := h x hx
  exact ⟨ρ, e, by simpa using q⟩
/-- a comprehension that changes the cells -/
theorem ctL_ind {ρ : List (Option SV)} {μ : List SV} (I : List α → List SV → List SV → Prop) (hl : xs.length ≤ 1000000) (h0 : I [] [] μ)
    (step : ∀ pre x post acc μ, xs = pre ++ x :: post → I pre acc μ → Ob (tgS tg (e x) (wipeL ρ vs)) fun ρ1 => Wb ft ⟨ρ1, μ⟩ (fun b S1 => br b (Wb fe S1 (fun y S2 => Gb (y.kid S2) fun z S3 => I (pre ++ [x]) (acc ++ [z]) S3.μ ∧ wipeL S3.ρ vs = wipeL ρ vs) fun _ _ => False) (I (pre ++ [x]) acc S1.μ ∧ wipeL S1.ρ vs = wipeL ρ vs)) fun _ _ => False)
    (hend : ∀ acc μ', I xs acc μ' → Q (.val (.own acc)) ⟨wipeL ρ vs, μ'⟩) : fCompTail tg ft fe vs (xs.map e) ⟨ρ, μ⟩ Q := by
  unfold fCompTail
  refine compF_ind (fun i acc S => I (xs.take i) acc S.μ ∧ S.ρ = wipeL ρ vs ∧ acc.length ≤ i) ⟨by simpa using h0, rfl, by simp⟩ (fun i d acc S hd hI => ?_) (fun acc S hI => ?_)
  · obtain ⟨ρ0, μ0⟩ := S
    obtain ⟨h1, e1, h3⟩ := hI
    have e1 : ρ0 = wipeL ρ vs := e1
    subst e1
    rw [List.getElem?_map] at hd
    cases ex : xs[i]? with
    | none => rw [ex] at hd; cases hd
    | some x =>
      rw [ex] at hd; cases hd
      have hi := (List.getElem?_eq_some_iff.mp ex).1
      have et : xs.take (i + 1) = xs.take i ++ [x] := by rw [List.take_add_one, ex]; rfl
      have es : xs = xs.take i ++ x :: xs.drop (i + 1) := by
        conv => lhs; rw [← List.take_append_drop i xs]
        congr 1
        exact List.drop_eq_getElem?_toList_append .. |>.trans (by rw [ex]; rfl)
      obtain ⟨ρ1, e2, r, e3, q⟩ := step (xs.take i) x (xs.drop (i + 1)) acc μ0 es h1
      rw [← et] at q
      refine ⟨ρ1, e2, r, e3, ?_⟩
      cases r with
      | exc e S1 => exact q
      | ok b S1 =>
        cases b with
        | true =>
          simp only [br_t] at q ⊢
          refine wb_mono q (fun y S2 hy => ?_) fun _ _ h => h
          obtain ⟨z, S3, e4, h4, h5⟩ := hy
          exact ⟨z, S3, e4, by omega, h4, h5, by rw [List.length_append]; simp; omega⟩
        | false =>
          simp only [br_f] at q ⊢
          exact ⟨q.1, q.2, by omega⟩
  · obtain ⟨ρ0, μ0⟩ := S
    obtain ⟨h1, e1, _⟩ := hI
    have e1 : ρ0 = wipeL ρ vs := e1
    subst e1
    rw [List.length_map, List.take_length] at h1
    exact hend acc μ0 h1
end
end L3

namespace FL
open PySem PySem.Spec PyProof.Rows L2 L3
theorem tail_ok2 {B m : Int} {x : SV} {y4 y6 y7 : Option SV} {w : Str} {ws : List Str} {P : SO → Prop} (hx : Dr B x) (hB : B < 2 ^ 45) (hl : ws.length ≤ 20) (hw : Wd w) (hs : ∀ w ∈ ws, Wd w)
    (h : ∀ w' x' y7, Wd w' → w' ∉ ws → Dr (B + 1) x' → P (.nx ⟨[some (.cell 0), some (.dat (.int m)), some (.dat (.str letters)), some (.own (sL (ws ++ [w']))), y4, some (.dat (.str w')), y6, y7, none, none], [x']⟩)) :
    Ws tailP ⟨[some (.cell 0), some (.dat (.int m)), some (.dat (.str letters)), some (.own (sL ws)), y4, some (.dat (.str w)), y6, y7, none, none], [x]⟩ P := by
  unfold tailP
  have e1 : inD false (.str w) (.lst (ws.map D.str)) = some (.bl (xorB false (decide (w ∈ ws)))) := by
    rw [inD_sm (x := .str w) hw.2 (strs_sm fun y hy => (hs y hy).2) (by simp [D.dp]) (Nat.le_trans strs_dp (by decide)), inT_str]
  simp [e1, xorB]
  refine ⟨fun hin => ⟨small62_of (by decide) (by decide), ?_⟩, fun hin => ⟨by omega, ?_⟩⟩
  · refine ct_map (fun d => match d with | .int k => .dat (.str (two k.toNat)) | _ => .dat .non) (by simp) (fun d hd => ?_) ?_
    · obtain ⟨k, hk, rfl⟩ := mem_range hd
      have hk : k < 676 := hk
      obtain ⟨t1, t2⟩ := two_get hk
      have u1 : atI letters.cps.toList ((k : Int) / 26) = some (97 + k / 26) := by
        rw [atI_in (by omega) (by rw [letters_ok.1]; omega), show ((k : Int) / 26).toNat = k / 26 by omega]; exact t1
      have u2 : atI letters.cps.toList ((k : Int) % 26) = some (97 + k % 26) := by
        rw [atI_in (by omega) (by rw [letters_ok.1]; omega), show ((k : Int) % 26).toNat = k % 26 by omega]; exact t2
      have l3 := letters_ok.2.2
      simp [u1, u2, l3]
      exact ⟨by show 1 + 1 ≤ 1000000; decide, by unfold two; rfl⟩
    · have eg : (rangeL 0 676 1).map (fun d => match d with | .int k => SV.dat (.str (two k.toNat)) | _ => .dat .non) = ((List.range 676).map two).map fun w => SV.dat (.str w) := by
        unfold rangeL; rw [List.map_map, List.map_map]
        apply List.map_congr_left
        intro k _
        simp
      rw [eg]
      simp
      rw [show peeks (List.map ((fun w => SV.dat (D.str w)) ∘ two) (List.range 676)) = some ((List.range 676).map (D.str ∘ two)) from peeks_mapf (f := D.str ∘ two), ob_some]
      simp
      have lay2 : ∀ k : Nat, k < 676 → Wd (two k) := fun k hk => ⟨by show 2 ≤ 8; decide, by rw [lay_iff]; intro c hc; have hc : c ∈ [97 + k / 26, 97 + k % 26] := hc; simp only [List.mem_cons, List.not_mem_nil, or_false] at hc; omega⟩
      refine ct_filter (fun d => match d with | .str v => !decide (v ∈ ws) | _ => false) SV.dat (by rw [List.length_map, List.length_range]; decide) (fun d hd => ?_) ?_
      · obtain ⟨k, hk, rfl⟩ := List.mem_map.mp hd
        have hk : k < 676 := List.mem_range.mp hk
        have e2 : inD true (.str (two k)) (.lst (ws.map D.str)) = some (.bl (xorB true (decide (two k ∈ ws)))) := by
          rw [inD_sm (x := .str (two k)) (lay2 k hk).2 (strs_sm fun y hy => (hs y hy).2) (by simp [D.dp]) (Nat.le_trans strs_dp (by decide)), inT_str]
        simp [e2, xorB]
      · have ef : (((List.range 676).map (D.str ∘ two)).filter fun d => match d with | .str v => !decide (v ∈ ws) | _ => false) = (((List.range 676).map two).filter fun v => !decide (v ∈ ws)).map D.str := by
          rw [← List.map_map, List.filter_map]; rfl
        rw [ef]
        have many := rest_many (ws := ws)
        generalize hf : ((List.range 676).map two).filter (fun v => !decide (v ∈ ws)) = fs at many
        have hni : ∀ v ∈ fs, v ∉ ws := fun v hv => by
          rw [← hf] at hv
          simpa using (List.mem_filter.mp hv).2
        have hfs : ∀ v ∈ fs, Wd v := fun v hv => by
          rw [← hf] at hv
          obtain ⟨k, hk, rfl⟩ := List.mem_map.mp (List.mem_filter.mp hv).1
          exact lay2 k (List.mem_range.mp hk)
        simp
        refine next_ok hx (by omega) (by decide) fun r1 x1 a1 b1 d1 => ?_
        simp
        refine ob_ixN a1 (by omega) fun j hj => ?_
        obtain ⟨v, hv⟩ : ∃ v, fs[j]? = some v := ⟨_, List.getElem?_eq_getElem hj⟩
        simp [hv]
        have := h v x1 (some (.dat (.lst ((List.range 676).map (D.str ∘ two))))) (hfs v (List.mem_of_getElem? hv)) (hni v (List.mem_of_getElem? hv)) d1
        refine ⟨by omega, ?_⟩
        simpa using this
  · have := h w x y7 hw hin (hx.up (by omega))
    simpa using this
/-- the new word, in any case -/
theorem words_ok2 {B m : Int} {x : SV} {Q X} (hx : Dr B x) (hB : B < 2 ^ 40) (hm : 0 ≤ m ∧ m ≤ 20) (h : ∀ (ws : List Str) (x' : SV), (ws.length : Int) = m → (∀ w ∈ ws, Wd w) → ws.Nodup → Dr (B + 1000) x' → Q (.own (sL ws)) [x']) :
    Wf F__law_words [.cell 0, .dat (.int m)] [x] Q X := by
  unfold F__law_words fb__law_words
  rw [← tailP_eq]
  simp [wf_run]
  refine whileF_ind (m := m.toNat) (fun k S => ∃ ws x' y4 y5 y6 y7, S = ⟨[some (.cell 0), some (.dat (.int m)), some (.dat (.str letters)), some (.own (sL ws)), y4, y5, y6, y7, none, none], [x']⟩ ∧ ws.length + k = m.toNat ∧ ((∀ w ∈ ws, Wd w) ∧ ws.Nodup) ∧ Dr (B + 40 * (ws.length : Int)) x')
    ⟨[], x, none, none, none, none, by simp, by simp, by simp, by simpa using hx⟩ (by omega) (fun k S hI => ?_)
  obtain ⟨ws, x', y4, y5, y6, y7, rfl, hk, ⟨hw, hnd⟩, hd⟩ := hI
  simp
  refine ⟨fun hlt => ?_, fun hge => ?_⟩
  · refine next_ok hd (by omega) (by decide) fun r1 x1 a1 b1 d1 => ?_
    simp
    refine next_ok d1 (by omega) (by decide) fun r2 x2 a2 b2 d2 => ?_
    simp
    refine next_ok d2 (by omega) (by decide) fun r3 x3 a3 b3 d3 => ?_
    simp
    refine ob_ixN a3 (by simpa using b3) fun j hj => ?_
    obtain ⟨sz, hsz, e⟩ : ∃ sz : Int, (0 ≤ sz ∧ sz ≤ 8) ∧ ([SV.dat (.int (1 + r1)), .dat (.int (1 + r2)), .dat (.int 8)] : List SV)[j]? = some (.dat (.int sz)) := by
      match j, hj with
      | 0, _ => exact ⟨1 + r1, by omega, rfl⟩
      | 1, _ => exact ⟨1 + r2, by omega, rfl⟩
      | 2, _ => exact ⟨8, by omega, rfl⟩
    simp [e]
    refine ⟨small62_of (by omega) (by omega), ?_⟩
    refine ct_ind (fun i acc μ => ∃ ys x', acc = sL ys ∧ ys.length = i ∧ (∀ y ∈ ys, y.length = 1 ∧ PyData.canLay0 (.str y) = true) ∧ μ = [x'] ∧ Dr (B + 40 * (ws.length : Int) + 3 + (i : Int)) x') (by rw [range_len]; omega)
      ⟨[], x3, rfl, rfl, by simp, rfl, by simpa [Int.add_assoc] using d3⟩ (fun i d acc μ hd hI => ?_) (fun acc μ hI => ?_)
    · obtain ⟨ys, x4, rfl, rfl, hys, rfl, d4⟩ := hI
      have hi := (List.getElem?_eq_some_iff.mp hd).1
      rw [range_len] at hi
      simp
      refine next_ok d4 (by omega) (by decide) fun r x5 a b d5 => ?_
      simp [letters_ok.2.2]
      refine ob_at a (by rw [letters_ok.1]; exact b) fun c hc => ?_
      have hc2 := letters_ok.2.1 c hc
      simp
      refine ⟨ys ++ [⟨#[c]⟩], by simp, by simp, fun y hy => ?_, d5.up (by omega)⟩
      rcases List.mem_append.mp hy with hy | hy
      · exact hys y hy
      · rw [List.mem_singleton.mp hy]; exact ⟨rfl, lay1 hc2⟩
    · obtain ⟨ys, x4, rfl, hyl, hys, rfl, d4⟩ := hI
      rw [range_len] at hyl d4
      have hj : PyData.canLay0 (.str (Txt.join (Str.ofString "") ys)) = true := join_lay fun y hy => (hys y hy).2
      have hjl : (Txt.join (Str.ofString "") ys).length = ys.length := join_len fun y hy => (hys y hy).1
      have wj : Wd (Txt.join (Str.ofString "") ys) := ⟨by omega, hj⟩
      have sum1 : (ys.map fun y => y.length).sum = ys.length := by
        clear hj hjl wj hyl d4
        induction ys with
        | nil => rfl
        | cons y ys ih => rw [List.map_cons, List.sum_cons, (hys y (by simp)).1, ih fun z hz => hys z (by simp [hz]), List.length_cons]; omega
      simp [sum1, show (Str.ofString "").length = 0 by decide]
      refine ⟨by omega, ?_⟩
      refine next_ok d4 (by omega) (by decide) fun r5 x5 a5 b5 d5 => ?_
      simp
      have fin : ∀ (w' : Str) (x' : SV) (y4 y5 y6 y7 : Option SV), Wd w' → w' ∉ ws → Dr (B + 40 * (ws.length : Int) + 40) x' → ∃ m', m' < k ∧ ∃ ws1 x'' z4 z5 z6 z7, (⟨[some (.cell 0), some (.dat (.int m)), some (.dat (.str letters)), some (.own (sL (ws ++ [w']))), y4, y5, y6, y7, none, none], [x']⟩ : Sto) = ⟨[some (.cell 0), some (.dat (.int m)), some (.dat (.str letters)), some (.own (sL ws1)), z4, z5, z6, z7, none, none], [x'']⟩ ∧ ws1.length + m' = m.toNat ∧ ((∀ w ∈ ws1, Wd w) ∧ ws1.Nodup) ∧ Dr (B + 40 * (ws1.length : Int)) x'' := fun w' x' y4 y5 y6 y7 hw' hni hd' =>
        ⟨k - 1, by omega, ws ++ [w'], x', y4, y5, y6, y7, rfl, by rw [List.length_append]; simp; omega, ⟨fun w hwm => by
          rcases List.mem_append.mp hwm with hwm | hwm
          · exact hw w hwm
          · rw [List.mem_singleton.mp hwm]; exact hw', List.nodup_append.mpr ⟨hnd, by simp, fun a ha b hb e => hni (by rw [← List.mem_singleton.mp hb, ← e]; exact ha)⟩⟩, hd'.up (by rw [List.length_append]; simp; omega)⟩
      refine ⟨fun h0 => ⟨⟨by decide, by decide +kernel⟩, ?_⟩, fun h0 => ?_⟩
      · refine next_ok d5 (by omega) (by decide) fun r6 x6 a6 b6 d6 => ?_
        simp
        refine ob_ixN a6 (by rw [ten_ok.1]; exact b6) fun j hj => ?_
        obtain ⟨v, hv⟩ : ∃ v, (Txt.split tenWords " ")[j]? = some v := ⟨_, List.getElem?_eq_getElem hj⟩
        simp [hv]
        exact tail_ok2 d6 (by omega) (by omega) (ten_ok.2 v (List.mem_of_getElem? hv)) hw fun w' x' z7 hw' hni hd' => fin w' x' _ _ _ _ hw' hni (hd'.up (by omega))
      · exact tail_ok2 d5 (by omega) (by omega) wj hw fun w' x' z7 hw' hni hd' => by
          obtain ⟨m', k1, ws1, x'', z4, z5, z6, z7, e, k2, k3, k4⟩ := fin w' x' (some (.dat (.int sz))) (some (.dat (.str w'))) y6 z7 hw' hni (hd'.up (by omega))
          exact ⟨m', k1, ws1, x'', ⟨z4, z5, z6, z7, e⟩, k2, k3, k4⟩
  · refine h ws x' (by omega) hw hnd (hd.up (by omega))
end FL

namespace FL
open PySem PySem.Spec PyProof.Rows L2 L3
/-! ### data within bounds -/
structure Bd (d : D) (w p : Nat) : Prop where
  sm : d.sm
  wt : d.wt ≤ w
  dp : d.dp ≤ p
theorem Bd.mono {d : D} {w p w' p' : Nat} (h : Bd d w p) (hw : w ≤ w') (hp : p ≤ p') : Bd d w' p' := ⟨h.sm, Nat.le_trans h.wt hw, Nat.le_trans h.dp hp⟩
theorem bd_non {w p : Nat} : Bd .non w p := ⟨by simp [D.sm], by simp [D.wt], by simp [D.dp]⟩
theorem bd_bl {b : Bool} {w p : Nat} : Bd (.bl b) w p := ⟨by simp [D.sm], by simp [D.wt], by simp [D.dp]⟩
theorem bd_int {i : Int} {w p : Nat} (h : i.natAbs < 10 ^ 12) (hw : 41 ≤ w) : Bd (.int i) w p := ⟨h, by simp only [D.wt]; exact hw, by simp [D.dp]⟩
theorem bd_str {x : Str} {w p : Nat} (h : PyData.canLay0 (.str x) = true) (hw : x.length ≤ w) : Bd (.str x) w p := ⟨h, by simp only [D.wt]; exact hw, by simp [D.dp]⟩
theorem bd_wd {x : Str} {w p : Nat} (h : Wd x) (hw : 8 ≤ w) : Bd (.str x) w p := bd_str h.2 (Nat.le_trans h.1 hw)
theorem bd_L {ds : List D} {w p n : Nat} (h : ∀ d ∈ ds, Bd d w p) (hn : ds.length ≤ n) : smL ds ∧ wtL ds ≤ n * (w + 1) ∧ dpL ds ≤ p :=
  ⟨smL_iff.mpr fun d hd => (h d hd).sm, Nat.le_trans (wtL_le fun d hd => (h d hd).wt) (Nat.mul_le_mul_right _ hn), dpL_le fun d hd => (h d hd).dp⟩
theorem bd_tup {ds : List D} {w p n w' p' : Nat} (h : ∀ d ∈ ds, Bd d w p) (hn : ds.length ≤ n) (hw : n * (w + 1) ≤ w' := by decide) (hp : p + 1 ≤ p' := by decide) : Bd (.tup ds) w' p' := by
  obtain ⟨a, b, c⟩ := bd_L h hn
  exact ⟨a, by simp only [D.wt]; omega, by simp only [D.dp]; omega⟩
theorem bd_lst {ds : List D} {w p n w' p' : Nat} (h : ∀ d ∈ ds, Bd d w p) (hn : ds.length ≤ n) (hw : n * (w + 1) ≤ w' := by decide) (hp : p + 1 ≤ p' := by decide) : Bd (.lst ds) w' p' := by
  obtain ⟨a, b, c⟩ := bd_L h hn
  exact ⟨a, by simp only [D.wt]; omega, by simp only [D.dp]; omega⟩
theorem bd_map {α : Type} {xs : List α} {e : α → D} {w p : Nat} (h : ∀ x ∈ xs, Bd (e x) w p) : ∀ d ∈ xs.map e, Bd d w p := fun d hd => by
  obtain ⟨x, hx, rfl⟩ := List.mem_map.mp hd
  exact h x hx
theorem bd_two {a b : D} {w p : Nat} (h1 : Bd a w p) (h2 : Bd b w p) : ∀ d ∈ [a, b], Bd d w p := by
  intro d hd; simp only [List.mem_cons, List.not_mem_nil, or_false] at hd; rcases hd with rfl | rfl <;> assumption
theorem bd_three {a b c : D} {w p : Nat} (h1 : Bd a w p) (h2 : Bd b w p) (h3 : Bd c w p) : ∀ d ∈ [a, b, c], Bd d w p := by
  intro d hd; simp only [List.mem_cons, List.not_mem_nil, or_false] at hd; rcases hd with rfl | rfl | rfl <;> assumption
theorem bd_four {a b c e : D} {w p : Nat} (h1 : Bd a w p) (h2 : Bd b w p) (h3 : Bd c w p) (h4 : Bd e w p) : ∀ d ∈ [a, b, c, e], Bd d w p := by
  intro d hd; simp only [List.mem_cons, List.not_mem_nil, or_false] at hd; rcases hd with rfl | rfl | rfl | rfl <;> assumption
theorem Bd.repr {d : D} (h : Bd d (2 ^ 20) 64) : reprD [d] = some (.str (pyOf d).shown) := repr_sm h.sm h.wt h.dp
theorem Bd.eq {a b : D} {w w' : Nat} (h : Bd a w 64) (h' : Bd b w' 64) : eqD a b = some (L3.eqT a b) := eqD_sm h.sm h'.sm h.dp h'.dp
/-- a section: its name, its marks, its stretches -/
structure Sc where
  n : Str
  ms : List Str
  rw : List (Int × Int × Int)
def Sc.d (s : Sc) : D := .tup [.str s.n, .tup (s.ms.map D.str), .tup (s.rw.map enc)]
structure Sc.Ok (s : Sc) : Prop where
  len : s.ms.length = s.rw.length + 1
  few : s.rw.length ≤ 7
  two : 1 ≤ s.rw.length
  name : Wd s.n
  marks : ∀ m ∈ s.ms, Wd m
  rows : ∀ t ∈ s.rw, RowOk t
theorem Sc.Ok.sec {s : Sc} (h : s.Ok) : Sec s.d s.n s.ms s.rw := ⟨rfl, h.len, h.few, h.name, h.marks, h.rows⟩
theorem bd_enc {t : Int × Int × Int} (h : RowOk t) : Bd (enc t) 126 1 :=
  bd_tup (w := 41) (p := 0) (n := 3) (bd_three (bd_int (by have := h.1; omega) (by decide)) (bd_int (by have := h.2.1; omega) (by decide)) (bd_int (by have := h.2.2; omega) (by decide))) (by simp)
theorem Sc.Ok.bd {s : Sc} (h : s.Ok) : Bd s.d 5000 3 :=
  bd_tup (w := 1000) (p := 2) (n := 3) (bd_three (bd_wd h.name (by decide)) (bd_tup (w := 8) (p := 0) (n := 8) (bd_map fun m hm => bd_wd (h.marks m hm) (by decide)) (by rw [List.length_map, h.len]; have := h.few; omega) )
    (bd_tup (w := 126) (p := 1) (n := 7) (bd_map fun t ht => bd_enc (h.rows t ht)) (by rw [List.length_map]; exact h.few))) (by simp)
theorem section_ok2 {B : Int} {n : Str} {pool : List Str} {x : SV} {Q X} (hx : Dr B x) (hB : B < 2 ^ 40) (hn : Wd n) (hp : 2 ≤ pool.length ∧ pool.length ≤ 20) (hpd : pool.Nodup) (hpw : ∀ w ∈ pool, Wd w) (h : ∀ (s : Sc) x', s.Ok → s.n = n → (∀ m ∈ s.ms, m ∈ pool) → Dr (B + 200) x' → Q (.dat s.d) [x']) :
    Wf F__law_section [.cell 0, .dat (.str n), .dat (.lst (pool.map D.str))] [x] Q X := by
  unfold F__law_section fb__law_section
  simp [wf_run]
  refine next_ok hx (by omega) (by decide) fun r1 x1 a1 b1 d1 => ?_
  simp
  refine next_ok d1 (by omega) (by decide) fun r2 x2 a2 b2 d2 => ?_
  simp
  refine next_ok d2 (by omega) (by decide) fun r3 x3 a3 b3 d3 => ?_
  simp
  refine ob_ixN a3 (by simpa using b3) fun j hj => ?_
  obtain ⟨many, hmany, e⟩ : ∃ sz : Int, (2 ≤ sz ∧ sz ≤ 8) ∧ ([SV.dat (.int (2 + r1)), .dat (.int (2 + r2)), .dat (.int 8)] : List SV)[j]? = some (.dat (.int sz)) := by
    match j, hj with
    | 0, _ => exact ⟨2 + r1, by omega, rfl⟩
    | 1, _ => exact ⟨2 + r2, by omega, rfl⟩
    | 2, _ => exact ⟨8, by omega, rfl⟩
  simp [e]
  refine next_ok d3 (by omega) (by omega) fun r4 x4 a4 b4 d4 => ?_
  simp
  refine ob_at a4 b4 fun m0 hm0 => ?_
  simp
  refine whileF_ind (m := 2 * 8) (fun k S => ∃ ms ws rs y6 x', S = ⟨[some (.cell 0), some (.dat (.str n)), some (.dat (.lst (pool.map D.str))), some (.dat (.int many)), some (.own (sL ms)), some (.own (ws.map SV.dat)), some y6, none, none], [x']⟩ ∧ y6.peek = some (.lst (rs.map D.str)) ∧ 2 * (8 - ms.length) + (if rs = [] then 0 else 1) ≤ k ∧ 0 < ms.length ∧ ms.length ≤ 8 ∧ (∀ w ∈ ms, Wd w) ∧ (∀ w ∈ rs, Wd w) ∧ (∀ d ∈ ws, Way d) ∧ ws.length ≤ 2 * ms.length ∧ ((ms.length = 1 → ws = [] ∧ rs ≠ []) ∧ ∀ m ∈ ms, m ∈ pool) ∧ (∀ m ∈ rs, m ∈ pool) ∧ Dr (B + 4 + (ms.length : Int)) x')
    ⟨[m0], [], pool, .dat (.lst (pool.map D.str)), x4, by simp, rfl, by simp; split <;> omega, by simp, by simp, by simpa using hpw m0 hm0, hpw, by simp, by simp, ⟨fun _ => ⟨rfl, fun z => by rw [z] at hp; simp at hp⟩, by simpa using hm0⟩, fun m hm => hm, d4.up (by simp; omega)⟩ (by omega) (fun k S hI => ?_)
  obtain ⟨ms, ws, rs, y6, x', rfl, hy, hk, l1, l2, hms, hrs, hws, lws, ⟨h1, hmp⟩, hrp, hd⟩ := hI
  obtain ⟨L, hL⟩ : ∃ L, ms.length = L + 1 := ⟨ms.length - 1, by omega⟩
  obtain ⟨last, hlast⟩ : ∃ last, ms[L]? = some last := ⟨_, List.getElem?_eq_getElem (by omega)⟩
  have wl : Wd last := hms last (List.mem_of_getElem? hlast)
  have neg1 : ixN ms.length (-1) = some L := by rw [hL]; exact ixN_neg1
  simp [hy, eq_nil hrs]
  refine ⟨fun hlt => ⟨fun hnil => ⟨small62_of (by omega) (by omega), ?a⟩, fun hne => ?b⟩, fun hge => ⟨small62_of (by omega) (by omega), ?c⟩⟩
  case b =>
    refine ct_filter (fun d => match d with | .str v => (!decide (v = last)) && !inT (.tup [.str last, .str v]) ws | _ => false) SV.dat (by rw [List.length_map]; omega) (fun d hd' => ?_) ?_
    · obtain ⟨v, hv, rfl⟩ := List.mem_map.mp hd'
      have e2 : inD true (.tup [.str last, .str v]) (.lst ws) = some (.bl (xorB true (inT (.tup [.str last, .str v]) ws))) :=
        inD_sm (x := .tup [.str last, .str v]) ⟨wl.2, (hpw v hv).2, trivial⟩ (ways_sm hws).1 (by simp [D.dp, dpL]) (Nat.le_trans (ways_sm hws).2 (by decide))
      simp [neg1, hlast]
      refine ⟨fun hc => by simp [hc], fun hc => ?_⟩
      simp [neg1, hlast, e2, xorB, hc]
      cases inT (.tup [.str last, .str v]) ws <;> simp
    · have ef : ((pool.map D.str).filter fun d => match d with | .str v => (!decide (v = last)) && !inT (.tup [.str last, .str v]) ws | _ => false) = (pool.filter fun v => (!decide (v = last)) && !inT (.tup [.str last, .str v]) ws).map D.str := by
        rw [List.filter_map]; rfl
      rw [ef]
      generalize hf : (pool.filter fun v => (!decide (v = last)) && !inT (.tup [.str last, .str v]) ws) = fs
      have hfp : ∀ v ∈ fs, v ∈ pool := fun v hv => by rw [← hf] at hv; exact (List.mem_filter.mp hv).1
      have hf1 : ms.length = 1 → fs ≠ [] := fun hl hz => by
        obtain ⟨a, b, r, rfl⟩ : ∃ a b r, pool = a :: b :: r := by
          match pool, hp with
          | a :: b :: r, _ => exact ⟨a, b, r, rfl⟩
          | [_], hp => simp at hp
          | [], hp => simp at hp
        have hab : a ≠ b := fun z => by subst z; simp at hpd
        rw [(h1 hl).1] at hf
        have q1 : ¬ (a ≠ last) := fun z => by
          have : a ∈ fs := by rw [← hf]; exact List.mem_filter.mpr ⟨by simp, by simp [z, inT, pysOf]⟩
          rw [hz] at this; cases this
        have q2 : ¬ (b ≠ last) := fun z => by
          have : b ∈ fs := by rw [← hf]; exact List.mem_filter.mpr ⟨by simp, by simp [z, inT, pysOf]⟩
          rw [hz] at this; cases this
        exact hab ((Classical.not_not.mp q1).trans (Classical.not_not.mp q2).symm)
      have hfs : ∀ v ∈ fs, Wd v := fun v hv => by rw [← hf] at hv; exact hpw v (List.mem_filter.mp hv).1
      have lfs : fs.length ≤ 20 := by rw [← hf]; exact Nat.le_trans (List.length_filter_le _ _) hp.2
      simp [eq_nil hfs]
      refine ⟨fun hnil => ?_, fun hne2 => ?_⟩
      · rw [if_neg hne] at hk
        exact ⟨k - 1, by omega, ms, ws, fs, .own (sL fs), x', ⟨⟨rfl, rfl, rfl⟩, rfl⟩, by simp, by rw [if_pos hnil]; omega, l1, l2, hms, hfs, hws, lws, ⟨fun hl => absurd hnil (hf1 hl), hmp⟩, hfp, hd⟩
      · have lpos : 0 < fs.length := by
          cases fs with
          | nil => exact absurd rfl hne2
          | cons => simp
        refine next_ok hd (by omega) (by omega) fun r5 x5 a5 b5 d5 => ?_
        simp
        refine ob_ixN a5 b5 fun j hj => ?_
        obtain ⟨v, hv⟩ : ∃ v, fs[j]? = some v := ⟨_, List.getElem?_eq_getElem hj⟩
        have wv := hfs v (List.mem_of_getElem? hv)
        have n1 : ixN (ms.length + 1) (-1) = some ms.length := ixN_neg1
        have n2 : ixN (ms.length + 1) (-2) = some L := by rw [hL]; exact ixN_neg2
        have g1 : (sL ms ++ [SV.dat (.str v)])[ms.length]? = some (.dat (.str v)) := by rw [List.getElem?_append_right (by simp)]; simp
        have g2 : (sL ms ++ [SV.dat (.str v)])[L]? = some (.dat (.str last)) := by rw [List.getElem?_append_left (by simp; omega)]; simp [hlast]
        simp [hv, n1, n2, g1, g2]
        rw [if_neg hne] at hk
        refine ⟨by omega, by omega, k - 1, by omega, ms ++ [v], ws ++ [.tup [.str last, .str v], .tup [.str v, .str last]], fs, .own (sL fs), x5, ⟨⟨by simp, by simp, rfl⟩, rfl⟩, by simp, by rw [if_neg hne2, List.length_append]; simp; omega, by simp, by rw [List.length_append]; simp; omega, fun w hw => ?_, hfs, fun d hd => ?_, by rw [List.length_append, List.length_append]; simp; omega, ⟨fun hl => by rw [List.length_append] at hl; simp at hl; rw [hl] at l1; simp at l1, fun m hm => by
          rcases List.mem_append.mp hm with hm | hm
          · exact hmp m hm
          · rw [List.mem_singleton.mp hm]; exact hfp v (List.mem_of_getElem? hv)⟩, hfp, d5.up (by rw [List.length_append]; simp; omega)⟩
        · rcases List.mem_append.mp hw with hw | hw
          · exact hms w hw
          · rw [List.mem_singleton.mp hw]; exact wv
        · rcases List.mem_append.mp hd with hd | hd
          · exact hws d hd
          · simp only [List.mem_cons, List.not_mem_nil, or_false] at hd
            rcases hd with rfl | rfl
            · exact ⟨_, _, wl, wv, rfl⟩
            · exact ⟨_, _, wv, wl, rfl⟩
  all_goals
    have two : 2 ≤ ms.length := by
      first | omega | (rcases Nat.lt_or_ge 1 ms.length with q | q; exact q; exact absurd hnil (h1 (by omega)).2)
    refine ct_ind (fun i acc μ => ∃ Rw x'', acc = Rw.map (fun t => SV.dat (enc t)) ∧ Rw.length = i ∧ (∀ t ∈ Rw, RowOk t) ∧ μ = [x''] ∧ Dr (B + 4 + (ms.length : Int) + 4 * (i : Int)) x'') (by rw [range_len]; omega) ⟨[], x', rfl, rfl, by simp, rfl, by simpa using hd⟩ (fun i d acc μ hd' hI => ?_) (fun acc μ hI => ?_)
    · obtain ⟨Rw, x5, rfl, rfl, hRw, rfl, d5⟩ := hI
      have hi := (List.getElem?_eq_some_iff.mp hd').1
      rw [range_len] at hi
      simp
      refine stretch_ok d5 (by omega) fun t x6 ht d6 => ?_
      simp
      refine ⟨Rw ++ [t], by simp, by simp, fun u1 u2 u3 hu => ?_, d6.up (by omega)⟩
      rcases List.mem_append.mp hu with hu | hu
      · exact hRw _ hu
      · rw [List.mem_singleton.mp hu]; exact ht
    · obtain ⟨Rw, x5, rfl, hRl, hRw, rfl, d5⟩ := hI
      rw [range_len] at hRl d5
      simp
      exact h ⟨n, ms, Rw⟩ x5 ⟨by show ms.length = Rw.length + 1; omega, by show Rw.length ≤ 7; omega, by show 1 ≤ Rw.length; omega, hn, hms, hRw⟩ rfl hmp (d5.up (by omega))
end FL

namespace L3
open PySem PySem.Spec PyProof.Rows L2
/-! ### dicts of a typed list -/
section
variable {α κ : Type} [DecidableEq κ]
theorem look_map (k : κ) (f : α → κ) (g : α → SV) : ∀ xs : List α, look k (xs.map f) (xs.map g) = (xs.find? fun x => decide (f x = k)).map g
  | [] => rfl
  | x :: xs => by
    show (if f x = k then some (g x) else look k (xs.map f) (xs.map g)) = _
    rw [look_map k f g xs, List.find?_cons]
    by_cases h : f x = k <;> simp [h]
theorem putKs_new (k : κ) (x : α) : ∀ (ks : List κ) (xs : List α), ks.length = xs.length → k ∉ ks → putKs k x ks xs = (ks ++ [k], xs ++ [x])
  | [], [], _, _ => rfl
  | j :: ks, y :: xs, h, hn => by
    show (if j = k then _ else _) = _
    rw [if_neg fun e => hn (by simp [e]), putKs_new k x ks xs (by simpa using h) fun e => hn (by simp [e])]
    rfl
  | [], _ :: _, h, _ => by simp at h
  | _ :: _, [], h, _ => by simp at h
end
theorem mkD_new {α : Type} (f : α → Key) (g : α → D) : ∀ (xs : List α) (ks : List Key) (ds : List D), ks.length = ds.length → (∀ x ∈ xs, f x ∉ ks) → (xs.map f).Nodup → mkD ks ds (xs.map fun x => (f x, g x)) = (ks ++ xs.map f, ds ++ xs.map g)
  | [], ks, ds, _, _, _ => by simp [mkD]
  | x :: xs, ks, ds, h, hk, hn => by
    have hx := hk x (by simp)
    simp only [List.map_cons, mkD, putKs_new (f x) (g x) ks ds h hx]
    simp only [List.map_cons, List.nodup_cons] at hn
    rw [mkD_new f g xs (ks ++ [f x]) (ds ++ [g x]) (by simp [h]) (fun y hy => by
      rw [List.mem_append, List.mem_singleton]
      rintro (e | e)
      · exact hk y (by simp [hy]) e
      · exact hn.1 (by rw [← e]; exact List.mem_map_of_mem hy)) hn.2]
    simp
theorem mkD_map {α : Type} {f : α → Key} {g : α → D} {xs : List α} (h : (xs.map f).Nodup) : mkD [] [] (xs.map fun x => (f x, g x)) = (xs.map f, xs.map g) := by
  rw [mkD_new f g xs [] [] rfl (by simp) h]; simp
theorem pairsD_map {α : Type} {f : α → D} {k : α → Key} {g : α → D} (hf : ∀ x, (f x).key = some (k x)) : ∀ xs : List α, pairsD (xs.map fun x => .tup [f x, g x]) = some (xs.map fun x => (k x, g x))
  | [] => rfl
  | x :: xs => by
    show ((f x).key).bind (fun k => (pairsD (xs.map fun x => .tup [f x, g x])).map fun r => (k, g x) :: r) = _
    rw [hf, pairsD_map hf xs]; rfl
/-! ### in, of a tuple -/
theorem inD_smT {neg : Bool} {x : D} {ds : List D} (hx : x.sm) (hs : smL ds) (h1 : x.dp ≤ 64) (h2 : dpL ds ≤ 63) : inD neg x (.tup ds) = some (.bl (xorB neg (inT x ds))) := inD_sm hx hs h1 h2
theorem inD_strs {neg : Bool} {x : Str} {ys : List Str} (hx : PyData.canLay0 (.str x) = true) (hs : ∀ y ∈ ys, PyData.canLay0 (.str y) = true) : inD neg (.str x) (.lst (ys.map D.str)) = some (.bl (xorB neg (decide (x ∈ ys)))) := by
  rw [inD_sm (x := .str x) hx (strs_sm hs) (by simp [D.dp]) (Nat.le_trans strs_dp (by decide)), inT_str]
theorem inD_strsT {neg : Bool} {x : Str} {ys : List Str} (hx : PyData.canLay0 (.str x) = true) (hs : ∀ y ∈ ys, PyData.canLay0 (.str y) = true) : inD neg (.str x) (.tup (ys.map D.str)) = some (.bl (xorB neg (decide (x ∈ ys)))) := inD_strs hx hs
@[simp] theorem xorB_t {b : Bool} : xorB true b = !b := rfl
@[simp] theorem xorB_f {b : Bool} : xorB false b = b := rfl
/-! ### negative places -/
@[simp] theorem ixN_m1 {n : Nat} : ixN (n + 1) (-1) = some n := ixN_neg1
@[simp] theorem ixN_m2 {n : Nat} : ixN (n + 2) (-2) = some n := ixN_neg2
@[simp] theorem atI_last {α : Type} {xs : List α} {x : α} : atI (xs ++ [x]) (-1) = some x := by
  unfold atI
  rw [List.length_append, List.length_singleton, ixN_neg1, Option.bind_some]
  simp
/-! ### slices -/
theorem cut_head {α : Type} {xs : List α} {n : Nat} : cutD xs none (some (n : Int)) = xs.take n := by
  unfold cutD
  rw [show HT.sIx xs.length xs.length (some (n : Int)) = min n xs.length from HT.sIx_nat _ xs.length n]
  rw [show HT.sIx xs.length 0 none = 0 from rfl]
  simp [List.take_eq_take_iff]
theorem cut_from {α : Type} {xs : List α} {n : Nat} : cutD xs (some (n : Int)) none = xs.drop n := by
  unfold cutD
  rw [show HT.sIx xs.length 0 (some (n : Int)) = min n xs.length from HT.sIx_nat _ 0 n]
  rw [show HT.sIx xs.length xs.length none = xs.length from rfl]
  rw [List.take_of_length_le (by rw [List.length_drop]; omega)]
  rcases Nat.le_total n xs.length with h | h
  · rw [Nat.min_eq_left h]
  · rw [Nat.min_eq_right h, List.drop_length, List.drop_of_length_le h]
theorem cut_m1 {α : Type} {xs : List α} : cutD xs none (some (-1)) = xs.dropLast := by
  unfold cutD
  rw [show HT.sIx xs.length 0 none = 0 from rfl]
  have : HT.sIx xs.length xs.length (some (-1)) = xs.length - 1 := by
    unfold HT.sIx; dsimp only; rw [if_pos (by decide)]; omega
  rw [this, List.dropLast_eq_take]; rfl
@[simp] theorem cut_m1' {α : Type} {xs : List α} : cutD xs none (some (-1)) = xs.dropLast := cut_m1
@[simp] theorem cut_one {α : Type} {xs : List α} : cutD xs (some 1) none = xs.tail := by rw [show (1 : Int) = ((1 : Nat) : Int) from rfl, cut_from, List.drop_one]
/-! ### plain data: no truth values, no things of the module's own -/
mutual
def D.pl : D → Prop
  | .non => True
  | .int _ => True
  | .str _ => True
  | .lst xs => plL xs
  | .tup xs => plL xs
  | _ => False
def plL : List D → Prop
  | [] => True
  | d :: ds => d.pl ∧ plL ds
end
@[simp] theorem pl_non : D.pl .non := by simp [D.pl]
@[simp] theorem pl_int {i : Int} : (D.int i).pl := by simp [D.pl]
@[simp] theorem pl_str {x : Str} : (D.str x).pl := by simp [D.pl]
@[simp] theorem pl_lst {xs : List D} : (D.lst xs).pl = plL xs := by simp [D.pl]
@[simp] theorem pl_tup {xs : List D} : (D.tup xs).pl = plL xs := by simp [D.pl]
@[simp] theorem plL_nil : plL [] := by simp [plL]
@[simp] theorem plL_cons {d : D} {ds : List D} : plL (d :: ds) = (d.pl ∧ plL ds) := by simp [plL]
@[simp] theorem plL_app : ∀ {xs ys : List D}, plL (xs ++ ys) ↔ plL xs ∧ plL ys
  | [], ys => by simp
  | x :: xs, ys => by simp [plL_app, and_assoc]
theorem plL_iff {xs : List D} : plL xs ↔ ∀ d ∈ xs, d.pl := by
  induction xs with
  | nil => simp
  | cons x xs ih => simp [ih]
@[simp] theorem plL_map {α : Type} {f : α → D} {xs : List α} : plL (xs.map f) ↔ ∀ x ∈ xs, (f x).pl := by simp [plL_iff]
@[simp] theorem pl_str' : ∀ x : Str, (D.str x).pl := fun _ => pl_str
mutual
theorem eqv_pl : ∀ (a b : D), a.pl → b.pl → (PyData.eqv (pyOf a) (pyOf b) = true ↔ a = b)
  | .non, b, _, hb => by cases b <;> simp_all [D.pl, pyOf, PyData.eqv]
  | .int i, b, _, hb => by cases b <;> simp_all [D.pl, pyOf, PyData.eqv]
  | .str x, b, _, hb => by cases b <;> simp_all [D.pl, pyOf, PyData.eqv]
  | .lst xs, b, ha, hb => by
    cases b with
    | lst ys => simp only [D.pl] at ha hb; simp [pyOf, PyData.eqv, eqvs_pl xs ys ha hb]
    | _ => simp_all [D.pl, pyOf, PyData.eqv]
  | .tup xs, b, ha, hb => by
    cases b with
    | tup ys => simp only [D.pl] at ha hb; simp [pyOf, PyData.eqv, eqvs_pl xs ys ha hb]
    | _ => simp_all [D.pl, pyOf, PyData.eqv]
  | .bl _, _, ha, _ => by simp [D.pl] at ha
  | .kl _, _, ha, _ => by simp [D.pl] at ha
  | .kt _, _, ha, _ => by simp [D.pl] at ha
  | .dK _ _, _, ha, _ => by simp [D.pl] at ha
  | .dT _ _, _, ha, _ => by simp [D.pl] at ha
  | .fn _, _, ha, _ => by simp [D.pl] at ha
theorem eqvs_pl : ∀ (xs ys : List D), plL xs → plL ys → (PyData.eqvAll (pysOf xs) (pysOf ys) = true ↔ xs = ys)
  | [], [], _, _ => by simp [pysOf, PyData.eqvAll]
  | [], _ :: _, _, _ => by simp [pysOf, PyData.eqvAll]
  | _ :: _, [], _, _ => by simp [pysOf, PyData.eqvAll]
  | x :: xs, y :: ys, ha, hb => by
    simp only [plL_cons] at ha hb
    simp [pysOf, PyData.eqvAll, eqv_pl x y ha.1 hb.1, eqvs_pl xs ys ha.2 hb.2]
end
open Classical in
theorem eqT_pl {a b : D} (ha : a.pl) (hb : b.pl) : eqT a b = decide (a = b) := by
  have h := eqv_pl a b ha hb
  have h2 : PyData.eqv (pyOf a) (pyOf b) = decide (a = b) := by
    by_cases e : a = b
    · simp [e] at h ⊢; rw [e] at *; exact h
    · simp [e] at h ⊢; exact h
  cases a <;> cases b <;> first | exact h2 | (simp [eqT])
theorem eqT_kt {a : D} {xs : List D} : eqT a (.kt xs) = eqT a (.tup xs) := by cases a <;> simp [eqT, pyOf]
/-- what «in» tells of plain data -/
theorem inT_pl {x : D} {ds : List D} (hx : x.pl) (hs : plL ds) : inT x ds = true ↔ x ∈ ds := by
  unfold inT
  induction ds with
  | nil => simp [pysOf]
  | cons d ds ih =>
    simp only [plL_cons] at hs
    simp only [pysOf, List.any_cons, Bool.or_eq_true, ih hs.2, eqv_pl d x hs.1 hx, List.mem_cons]
    constructor
    · rintro (e | e)
      · exact .inl e.symm
      · exact .inr e
    · rintro (e | e)
      · exact .inl e.symm
      · exact .inr e
theorem str_inj : Function.Injective D.str := fun _ _ h => by cases h; rfl
theorem int_inj : Function.Injective D.int := fun _ _ h => by cases h; rfl
@[simp] theorem t_non : truD .non = some false := rfl
@[simp] theorem t_tup0 : truD (.tup []) = some false := rfl
@[simp] theorem t_tup1 {d : D} {ds : List D} : truD (.tup (d :: ds)) = some true := rfl
@[simp] theorem t_lst0 : truD (.lst []) = some false := rfl
@[simp] theorem t_lst1 {d : D} {ds : List D} : truD (.lst (d :: ds)) = some true := rfl
@[simp] theorem s_putp1 {n : Nd} {xs : List SV} {k : Nat} {p : List Nat} {y : SV} : (SV.node n xs).putp (k :: p) y = .node n (match xs[k]? with
    | some z => xs.set k (z.putp p y)
    | none => xs) := by
  show (match xs[k]? with | some z => SV.node n (xs.set k (z.putp p y)) | none => SV.node n xs) = _
  cases xs[k]? <;> rfl
@[simp] theorem set_last {α : Type} {xs : List α} {x y : α} {k : Nat} (h : k = xs.length) : (xs ++ [x]).set k y = xs ++ [y] := by subst h; simp
@[simp] theorem s_tru_node {S : Sto} {n : Nd} {xs : List SV} : R.tru S (.val (.node n xs)) = (SV.node n xs).peek.bind truD := rfl
theorem peeks_mapg {α : Type} {f : α → SV} {g : α → D} {l : List α} (h : ∀ x ∈ l, (f x).peek = some (g x)) : peeks (l.map f) = some (l.map g) := by
  induction l with
  | nil => rfl
  | cons x l ih => rw [List.map_cons, s_pks1, h x (by simp), ih fun y hy => h y (by simp [hy])]; rfl
@[simp] theorem s_storeAt {ρ : List (Option SV)} {μ : List SV} {i : Nat} {p : List Nat} {k : D} {x : SV} : storeAt (.bor i p) k x ⟨ρ, μ⟩ = (ρ[i]?).bind fun o => o.bind fun y => (y.sub p).bind fun z => match z with
    | .cell c => (μ[c]?).bind fun y => match y with
      | .node n xs => (putNd n xs k x).map fun (z : Nd × List SV) => (⟨ρ, μ.set c (.node z.1 z.2)⟩ : Sto)
      | _ => none
    | .node n xs => (putNd n xs k x).map fun (z : Nd × List SV) => (⟨ρ.set i (some (y.putp p (.node z.1 z.2))), μ⟩ : Sto)
    | _ => none := by
  unfold storeAt
  rw [s_sv_bor, s_sub]
  cases e : ρ[i]? with
  | none => rfl
  | some o =>
    cases o with
    | none => rfl
    | some y =>
      simp only [Option.bind_some]
      cases e3 : y.sub p with
      | none => rfl
      | some z =>
        cases z with
        | node n xs =>
          dsimp only
          cases e4 : putNd n xs k x <;> simp [Sto.putp, e, e4]
        | cell c =>
          dsimp only
          cases e2 : μ[c]? with
          | none => simp [e2]
          | some y => cases y <;> simp [e2] <;> rfl
        | dat d => rfl
@[simp] theorem wb_isi {T : String} {fe : FE} {S : Sto} {Q : R → Sto → Prop} {X : Ex → Sto → Prop} : Wb (fIsi T fe) S Q X = Wb fe S (fun r S1 => Ob (r.peek S1) fun d => Ob (isiD T d) fun z => Q (.d z) S1) X := by
  unfold fIsi; rw [wb_bind]; refine wb_ext fun r S1 => ?_
  unfold Wb
  cases e : r.peek S1 with
  | none => simp [e]
  | some d => cases e2 : isiD T d <;> simp [e, e2]
theorem kb_tt : kitB "tuple" "tuple" = some true := by decide +kernel
theorem kb_lt : kitB "list" "tuple" = some false := by decide +kernel
theorem kb_ll : kitB "list" "list" = some true := by decide +kernel
theorem kb_tl : kitB "tuple" "list" = some false := by decide +kernel
@[simp] theorem isi_tt {ds : List D} : isiD "tuple" (.tup ds) = some (.bl true) := by show (kitB "tuple" "tuple").map D.bl = _; rw [kb_tt]; rfl
@[simp] theorem isi_lt {ds : List D} : isiD "tuple" (.lst ds) = some (.bl false) := by show (kitB "list" "tuple").map D.bl = _; rw [kb_lt]; rfl
@[simp] theorem isi_ll {ds : List D} : isiD "list" (.lst ds) = some (.bl true) := by show (kitB "list" "list").map D.bl = _; rw [kb_ll]; rfl
@[simp] theorem isi_tl {ds : List D} : isiD "list" (.tup ds) = some (.bl false) := by show (kitB "tuple" "list").map D.bl = _; rw [kb_tl]; rfl
/-! ### one statement apart -/
def Nx (I : Sto → Prop) : SO → Prop
  | .nx S => I S
  | _ => False
section
variable {I : Sto → Prop} {S : Sto} {f g : FS} {P : SO → Prop}
@[simp] theorem nx_nx : Nx I (.nx S) = I S := rfl
@[simp] theorem nx_bk : Nx I (.bk S) = False := rfl
@[simp] theorem nx_ct : Nx I (.ct S) = False := rfl
@[simp] theorem nx_rt {x : SV} {μ : List SV} : Nx I (.rt x μ) = False := rfl
@[simp] theorem nx_exc {e : Ex} : Nx I (.exc e S) = False := rfl
/-- the first statement by what it leaves -/
theorem ws_cut (I : Sto → Prop) (h1 : Ws f S (Nx I)) (h2 : ∀ S1, I S1 → Ws g S1 P) : Ws (fSeq f g) S P := by
  rw [ws_seq]
  refine ws_mono h1 fun o ho => ?_
  cases o with
  | nx S1 => exact h2 S1 ho
  | _ => exact ho.elim
theorem ws_cut1 (S1 : Sto) (h1 : Ws f S (Nx (· = S1))) (h2 : Ws g S1 P) : Ws (fSeq f g) S P := ws_cut _ h1 fun S2 e => by rw [e]; exact h2
end
end L3

namespace FL
open PySem PySem.Spec PyProof.Rows L2 L3
/-- a leg, or the ride -/
inductive Lg
  | ride
  | leg (n : Str) (i j : Nat)
def Lg.d : Lg → D
  | .ride => .tup [.str "ride"]
  | .leg n i j => .tup [.str n, .int i, .int j]
def Lg.Ok : Lg → Prop
  | .ride => True
  | .leg n i j => Wd n ∧ i ≤ 8 ∧ j ≤ 8 ∧ i ≠ j
theorem wd_ride : Wd "ride" := ⟨by decide, by decide +kernel⟩
theorem lg_bd {l : Lg} (h : l.Ok) : Bd l.d 200 1 := by
  cases l with
  | ride => exact bd_tup (w := 8) (p := 0) (n := 1) (by intro d hd; simp only [List.mem_singleton] at hd; subst hd; exact bd_wd wd_ride (by decide)) (by simp)
  | leg n i j =>
    obtain ⟨h1, h2, h3, h4⟩ := h
    exact bd_tup (w := 41) (p := 0) (n := 3) (bd_three (bd_wd h1 (by decide)) (bd_int (by omega) (by decide)) (bd_int (by omega) (by decide))) (by simp)
theorem lg_pl {l : Lg} : l.d.pl := by cases l <;> simp [Lg.d]
theorem enc_pl {t : Int × Int × Int} : (enc t).pl := by simp [enc]
theorem Sc.pl {s : Sc} : s.d.pl := by simp [Sc.d, enc_pl]
/-- a book's sections -/
structure Bk (ss : List Sc) : Prop where
  few : ss.length ≤ 6
  ok : ∀ s ∈ ss, s.Ok
  nd : (ss.map Sc.n).Nodup
abbrev bkD (ss : List Sc) (o : List D) : D := .tup (.tup (ss.map Sc.d) :: o)
def clD : Option (List Str) → D
  | none => .non
  | some c => .tup (c.map D.str)
def shut (c : Option (List Str)) : List Str := c.getD []
structure Cl (c : Option (List Str)) : Prop where
  few : (shut c).length ≤ 20
  ok : ∀ n ∈ shut c, Wd n
/-- a leg's section, where it counts -/
def fnd (ss : List Sc) (c : List Str) : Lg → Option Sc
  | .ride => none
  | .leg n i j => ss.find? fun s => decide (s.n = n ∧ n ∉ c ∧ max i j < s.ms.length)
/-- a section by its name, where it is not shut -/
def nmd (ss : List Sc) (c : List Str) (n : Str) : Option Sc := (ss.filter fun s => !decide (s.n ∈ c)).find? fun s => decide (s.n = n)
theorem fnd_by {ss : List Sc} {c : List Str} {n : Str} {i j : Nat} (hnd : (ss.map Sc.n).Nodup) : fnd ss c (.leg n i j) = (nmd ss c n).filter fun s => decide (max i j < s.ms.length) := by
  show ss.find? _ = ((ss.filter fun s => !decide (s.n ∈ c)).find? fun s => decide (s.n = n)).filter _
  induction ss with
  | nil => rfl
  | cons s ss ih =>
    simp only [List.map_cons, List.nodup_cons] at hnd
    have ih := ih hnd.2
    rw [List.find?_cons, List.filter_cons]
    by_cases h1 : s.n = n
    · have none1 : (ss.filter fun s => !decide (s.n ∈ c)).find? (fun s => decide (s.n = n)) = none := by
        rw [List.find?_eq_none]
        intro t ht
        have := (List.mem_filter.mp ht).1
        simp only [decide_eq_true_eq]
        intro e
        exact hnd.1 (by rw [h1, ← e]; exact List.mem_map_of_mem this)
      rw [none1] at ih
      have ih : ss.find? (fun s => decide (s.n = n ∧ n ∉ c ∧ max i j < s.ms.length)) = none := ih
      by_cases h2 : n ∈ c
      · rw [show decide (s.n = n ∧ n ∉ c ∧ max i j < s.ms.length) = false by simp [h2], show (!decide (s.n ∈ c)) = false by simp [h1, h2]]
        dsimp only
        rw [ih]
        simp [none1]
      · rw [show (!decide (s.n ∈ c)) = true by simp [h1, h2]]
        simp only [if_true, List.find?_cons, h1, decide_true, Option.filter]
        by_cases h3 : max i j < s.ms.length
        · simp [h2, h3]
        · rw [show decide (True ∧ n ∉ c ∧ max i j < s.ms.length) = false by simp [h3]]
          dsimp only
          rw [ih]; simp [h3]
    · have : decide (s.n = n ∧ n ∉ c ∧ max i j < s.ms.length) = false := by simp [h1]
      rw [this, ih]
      by_cases h2 : s.n ∈ c
      · simp [h2]
      · simp [h2, h1]
def fdD (ss : List Sc) (c : List Str) (l : Lg) : D := .tup [l.d, ((fnd ss c l).map Sc.d).getD .non]
def Lg.isR : Lg → Bool
  | .ride => true
  | _ => false
theorem ride_bd : Bd (.kt [.str "ride"]) 200 1 := ⟨by simp [D.sm, smL]; exact wd_ride.2, by simp [D.wt, wtL]; decide, by simp [D.dp, dpL]⟩
theorem lg_ride {l : Lg} (h : l.Ok) : eqD l.d (.kt [.str "ride"]) = some l.isR := by
  rw [Bd.eq ((lg_bd h).mono (Nat.le_refl _) (by decide)) (ride_bd.mono (Nat.le_refl _) (by decide)), eqT_kt, eqT_pl lg_pl (by simp)]
  cases l <;> simp [Lg.d, Lg.isR]
theorem found_step {d0 d1 d2 d3 dd : D} {ss : List Sc} {c : List Str} {l : Lg} {acc : List SV} {y7 : Option SV} {μ : List SV} {P : SO → Prop} (hb : Bk ss) (ho : l.Ok) (hacc : acc.length < 1000000)
    (get : ∀ S n, SV.dget S (.dat dd) (.str n) = some ((nmd ss c n).map fun s => .dat s.d)) (isD : ∀ S, SV.isD S (.dat dd) = true)
    (h : ∀ y7, P (.nx ⟨[some (.dat d0), some (.dat d1), some (.dat d2), some (.dat d3), some (.dat dd), some (.own (acc ++ [.dat (fdD ss c l)])), some (.dat l.d), y7], μ⟩)) :
    Ws lb_found_by_1 ⟨[some (.dat d0), some (.dat d1), some (.dat d2), some (.dat d3), some (.dat dd), some (.own acc), some (.dat l.d), y7], μ⟩ P := by
  unfold lb_found_by_1
  have eq1 := lg_ride ho
  cases l with
  | ride =>
    simp [Lg.isR, Lg.d] at eq1
    simp [eq1, Lg.d]
    refine ⟨hacc, ?_⟩
    simpa [fdD, fnd, Lg.d] using h _
  | leg n i j =>
    simp [Lg.isR, Lg.d] at eq1
    have e := fnd_by (c := c) (n := n) (i := i) (j := j) hb.nd
    simp [eq1, isD, Lg.d, get]
    unfold fdD at h
    rw [e] at h
    cases ef : nmd ss c n with
    | none =>
      rw [ef] at h
      simp
      exact ⟨hacc, by simpa [Lg.d] using h _⟩
    | some s =>
      rw [ef] at h
      have hm : (if (i : Int) < j then (j : Int) else i) = (max i j : Nat) := by split <;> omega
      simp [Sc.d, hm]
      refine ⟨fun hc => ?_, fun hc => ?_⟩
      · have h3 : ¬ (max i j < s.ms.length) := by omega
        refine ⟨hacc, ?_⟩
        have := h (some (.dat .non))
        simp only [Option.filter, decide_eq_true_eq, h3, if_false] at this
        simpa [Lg.d, Option.filter, h3] using this
      · have h3 : max i j < s.ms.length := by omega
        refine ⟨hacc, ?_⟩
        have := h (some (.dat s.d))
        simp only [Option.filter, decide_eq_true_eq, h3, if_true] at this
        simpa [Lg.d, Sc.d] using this
theorem found_by_ok {ss : List Sc} {o : List D} {ls : List Lg} {c : Option (List Str)} {μ : List SV} {Q X} (hb : Bk ss) (hl : ls.length ≤ 80) (ho : ∀ l ∈ ls, l.Ok) (hc : Cl c) (h : Q (.own (ls.map fun l => .dat (fdD ss (shut c) l))) μ) :
    Wf F_found_by [.dat (bkD ss o), .dat (.tup (ls.map Lg.d)), .dat (clD c)] μ Q X := by
  unfold F_found_by fb_found_by
  rw [wf_run]
  refine ⟨rfl, ?_⟩
  refine ws_cut1 ⟨[some (.dat (bkD ss o)), some (.dat (.tup (ls.map Lg.d))), some (.dat (clD c)), some (.dat (.tup ((shut c).map D.str))), none, none, none, none], μ⟩ ?_ ?_
  · match c with
    | none => simp [clD, shut]
    | some [] => simp [clD, shut]
    | some (n :: ns) => simp [clD, shut]
  · simp
    refine ctL_filter (fun s => !decide (s.n ∈ shut c)) (fun s => .dat (.tup [.str s.n, s.d])) (Nat.le_trans hb.few (by decide)) (fun s hs => ?_) ?_
    · have e := inD_strsT (neg := true) (hb.ok s hs).name.2 (fun y hy => (hc.ok y hy).2)
      simp [Sc.d, e]
    · have nd : ((ss.filter fun s => !decide (s.n ∈ shut c)).map fun s => (Sum.inr s.n : Key)).Nodup := by
        have h1 : ((ss.filter fun s => !decide (s.n ∈ shut c)).map Sc.n).Nodup := ((List.filter_sublist (p := fun s => !decide (s.n ∈ shut c)) (l := ss)).map Sc.n).nodup hb.nd
        rw [show (fun s : Sc => (Sum.inr s.n : Key)) = Sum.inr ∘ Sc.n from rfl, ← List.map_map]
        exact List.Pairwise.map _ (fun a b hab e => hab (Sum.inr.inj e)) h1
      have pd : pairsD (List.map (fun t => D.tup [D.str t.n, t.d]) (List.filter (fun s => !decide (s.n ∈ shut c)) ss)) = _ := pairsD_map (f := fun s : Sc => D.str s.n) (k := fun s => .inr s.n) (g := Sc.d) (fun s => rfl) _
      simp [pd, mkD_map nd]
      have get : ∀ S n, SV.dget S (.dat (.dK ((ss.filter fun s => !decide (s.n ∈ shut c)).map fun s => .inr s.n) ((ss.filter fun s => !decide (s.n ∈ shut c)).map Sc.d))) (.str n) = some ((nmd ss (shut c) n).map fun s => .dat s.d) := fun S n => by
        rw [s_dget_dK, List.map_map]
        show some (look _ _ _) = _
        rw [look_map]
        simp only [Sum.inr.injEq]
        rfl
      have isD : ∀ S, SV.isD S (.dat (.dK ((ss.filter fun s => !decide (s.n ∈ shut c)).map fun s => .inr s.n) ((ss.filter fun s => !decide (s.n ∈ shut c)).map Sc.d))) = true := fun S => rfl
      generalize (D.dK ((ss.filter fun s => !decide (s.n ∈ shut c)).map fun s => .inr s.n) ((ss.filter fun s => !decide (s.n ∈ shut c)).map Sc.d)) = dd at get isD
      refine forL_ind (fun pre S => ∃ y6 y7, S = ⟨[some (.dat (bkD ss o)), some (.dat (.tup (ls.map Lg.d))), some (.dat (clD c)), some (.dat (.tup ((shut c).map D.str))), some (.dat dd), some (.own (pre.map fun l => .dat (fdD ss (shut c) l))), y6, y7], μ⟩) ⟨none, none, by simp⟩ (fun pre l post S e hI => ?_) (fun S hI => ?_)
      · obtain ⟨y6, y7, rfl⟩ := hI
        have hll : l ∈ ls := by rw [e]; simp
        have hpre : pre.length < 1000000 := by rw [e, List.length_append, List.length_cons] at hl; omega
        simp
        refine found_step (d0 := bkD ss o) hb (ho l hll) (by simpa using hpre) get isD fun y7 => ?_
        exact ⟨some (.dat l.d), y7, by simp⟩
      · obtain ⟨y6, y7, rfl⟩ := hI
        simpa using h
end FL

namespace FL
open PySem PySem.Spec PyProof.Rows L2 L3
def Lg.i : Lg → Nat
  | .ride => 0
  | .leg _ i _ => i
def Lg.j : Lg → Nat
  | .ride => 0
  | .leg _ _ j => j
def Sc.mrk (s : Sc) (k : Nat) : Str := s.ms.getD k ""
theorem fnd_some {ss : List Sc} {c : List Str} {l : Lg} {s : Sc} (h : fnd ss c l = some s) : s ∈ ss ∧ ∃ n, l = .leg n l.i l.j ∧ s.n = n ∧ n ∉ c ∧ l.i < s.ms.length ∧ l.j < s.ms.length := by
  cases l with
  | ride => cases h
  | leg n i j =>
    have h : ss.find? _ = some s := h
    have h1 := List.find?_some h
    simp only [decide_eq_true_eq] at h1
    exact ⟨List.mem_of_find?_eq_some h, n, rfl, h1.1, h1.2.1, by show i < _; omega, by show j < _; omega⟩
theorem Sc.at_ok {s : Sc} {k : Nat} (h : k < s.ms.length) : atI s.ms (k : Int) = some (s.mrk k) := by
  rw [atI_in (by omega) (by omega)]
  simp [Sc.mrk, List.getD, List.getElem?_eq_getElem h]
theorem Sc.mrk_mem {s : Sc} {k : Nat} (h : k < s.ms.length) : s.mrk k ∈ s.ms := by
  simp [Sc.mrk, List.getD, List.getElem?_eq_getElem h]
/-- where a leg leads from and to -/
def ftD (ss : List Sc) (c : List Str) (l : Lg) : D := match fnd ss c l with
  | none => .non
  | some s => .tup [.str (s.mrk l.i), .str (s.mrk l.j)]
theorem from_to_ok {ss : List Sc} {o : List D} {l : Lg} {c : Option (List Str)} {μ : List SV} {Q X} (hb : Bk ss) (ho : l.Ok) (hc : Cl c) (h : Q (.dat (ftD ss (shut c) l)) μ) :
    Wf F_from_to [.dat (bkD ss o), .dat l.d, .dat (clD c)] μ Q X := by
  unfold F_from_to fb_from_to
  simp [wf_run]
  refine found_by_ok (ls := [l]) hb (by simp) (by simpa using ho) hc ?_
  simp [fdD]
  unfold ftD at h
  cases e : fnd ss (shut c) l with
  | none =>
    rw [e] at h
    simp
    exact h
  | some s =>
    rw [e] at h
    obtain ⟨hm, n, el, e1, e2, e3, e4⟩ := fnd_some e
    have hd : l.d = .tup [.str n, .int l.i, .int l.j] := by rw [el]; rfl
    simp [Sc.d, hd, Sc.at_ok e3, Sc.at_ok e4]
    exact h
/-! ### the legs that count -/
def okp (ss : List Sc) (c : List Str) (a b : Lg) : Bool := match fnd ss c a, fnd ss c b with
  | some s, some t => decide (s.mrk a.j = t.mrk b.i)
  | _, _ => true
def sound (ss : List Sc) (c : List Str) : List Lg → Bool
  | a :: b :: r => okp ss c a b && sound ss c (b :: r)
  | _ => true
def pr (ss : List Sc) (c : List Str) (l : Lg) : Option (Lg × Sc) := (fnd ss c l).map fun s => (l, s)
theorem sound_snoc {ss : List Sc} {c : List Str} {l : Lg} : ∀ {pre : List Lg}, sound ss c (pre ++ [l]) = (sound ss c pre && match pre.getLast? with
    | some a => okp ss c a l
    | none => true)
  | [] => rfl
  | [a] => by simp [sound]
  | a :: b :: r => by
    show (okp ss c a b && sound ss c (b :: r ++ [l])) = _
    rw [sound_snoc (pre := b :: r), List.getLast?_cons_cons]
    simp [sound, Bool.and_assoc]
theorem sound_bad {ss : List Sc} {c : List Str} {post : List Lg} : ∀ {pre : List Lg}, sound ss c pre = false → sound ss c (pre ++ post) = false
  | [], h => by cases h
  | [a], h => by cases h
  | a :: b :: r, h => by
    show (okp ss c a b && sound ss c (b :: r ++ post)) = false
    have h : (okp ss c a b && sound ss c (b :: r)) = false := h
    cases e : okp ss c a b with
    | false => rfl
    | true =>
      rw [e] at h
      simpa using sound_bad (pre := b :: r) (by simpa using h)
abbrev pD (p : Lg × Sc) : D := .tup [p.1.d, p.2.d]
abbrev runV (r : List (Lg × Sc)) : SV := .own (r.map fun p => .dat (pD p))
/-- the walk's state -/
def CbI (d0 d1 d2 : D) (ss : List Sc) (c : List Str) (μ : List SV) (pre : List Lg) (S : Sto) : Prop := ∃ (y5 y6 y7 y8 : Option SV) (runs : List (List (Lg × Sc))) (fresh : Bool), S = ⟨[some (.dat d0), some (.dat d1), some (.dat d2), some (.own (runs.map runV)), some (.dat (.bl fresh)), y5, y6, y7, y8], μ⟩ ∧
  sound ss c pre = true ∧ runs.flatten = pre.filterMap (pr ss c) ∧ runs.length ≤ pre.length ∧
    (fresh = true → ∀ a, pre.getLast? = some a → fnd ss c a = none) ∧ (fresh = false → ∃ R r a s, runs = R ++ [r ++ [(a, s)]] ∧ pre.getLast? = some a ∧ fnd ss c a = some s)
theorem counted_step {d0 d1 d2 : D} {ss : List Sc} {c : List Str} {μ : List SV} {pre : List Lg} {l : Lg} {ρ : List (Option SV)} {P : SO → Prop} (hl : pre.length ≤ 80) (hI : CbI d0 d1 d2 ss c μ pre ⟨ρ, μ⟩)
    (h0 : sound ss c (pre ++ [l]) = false → P (.rt (.dat .non) μ)) (h1 : ∀ S1, CbI d0 d1 d2 ss c μ (pre ++ [l]) S1 → P (.nx S1)) : Ob (tgS (.tp [.nm 5, .nm 6]) (fdD ss c l) ρ) fun ρ => Ws lb_counted_by_1 ⟨ρ, μ⟩ P := by
  obtain ⟨y5, y6, y7, y8, runs, fresh, e, k1, k2, k5, k3, k4⟩ := hI
  cases e
  unfold lb_counted_by_1
  simp [fdD]
  have fm : (pre ++ [l]).filterMap (pr ss c) = pre.filterMap (pr ss c) ++ (pr ss c l).toList := by
    rw [List.filterMap_append]; cases e : pr ss c l <;> simp [e]
  have gl : (pre ++ [l]).getLast? = some l := by simp
  cases ef : fnd ss c l with
  | none =>
    have okl : ∀ a, okp ss c a l = true := fun a => by unfold okp; rw [ef]; cases fnd ss c a <;> rfl
    simp
    refine h1 _ ⟨_, _, _, _, runs, true, rfl, ?_, ?_, by simp; omega, fun _ a ha => ?_, fun h => by cases h⟩
    · rw [sound_snoc, k1]; cases pre.getLast? <;> simp [okl]
    · rw [fm, k2]; simp [pr, ef]
    · rw [gl] at ha; cases ha; exact ef
  | some s =>
    obtain ⟨hm, n, el, e1, e2, e3, e4⟩ := fnd_some ef
    have prl : pr ss c l = some (l, s) := by unfold pr; rw [ef]; rfl
    have hd : l.d = .tup [.str n, .int l.i, .int l.j] := by rw [el]; rfl
    simp [Sc.d]
    cases fresh with
    | true =>
      simp
      refine ⟨by omega, ?_⟩
      refine h1 _ ⟨some (.dat l.d), some (.dat s.d), y7, y8, runs ++ [[(l, s)]], false, by simp [Sc.d], ?_, ?_, by simp; omega, (fun h => by cases h), fun _ => ⟨runs, [], l, s, by simp, gl, ef⟩⟩
      · rw [sound_snoc, k1]
        cases e : pre.getLast? with
        | none => rfl
        | some a => simp [okp, k3 rfl a e]
      · rw [fm, List.flatten_append, k2, prl]; simp
    | false =>
      obtain ⟨R, r, a, s', rfl, g1, g2⟩ := k4 rfl
      obtain ⟨hm', n', el', e1', e2', e3', e4'⟩ := fnd_some g2
      have hd' : a.d = .tup [.str n', .int a.i, .int a.j] := by rw [el']; rfl
      have hr : r.length ≤ 80 := by
        have : (R ++ [r ++ [(a, s')]]).flatten.length ≤ pre.length := by rw [k2]; exact List.length_filterMap_le _ _
        simp at this; omega
      simp [Sc.d, hd, hd', Sc.at_ok e4', Sc.at_ok e3]
      refine ⟨fun heq => ⟨by omega, ?_⟩, fun hne => h0 ?_⟩
      · refine h1 _ ⟨some (.dat l.d), some (.dat s.d), some (.dat a.d), some (.dat s'.d), R ++ [(r ++ [(a, s')]) ++ [(l, s)]], false, ?_, ?_, ?_, by simp at k5 ⊢; omega, (fun h => by cases h), fun _ => ⟨R, r ++ [(a, s')], l, s, rfl, gl, ef⟩⟩
        · simp [Sc.d, hd, hd']
        · rw [sound_snoc, k1, g1]; simp [okp, g2, ef, heq]
        · rw [fm, ← k2, prl]; simp
      · rw [sound_snoc, k1, g1]; simp [okp, g2, ef, hne]
theorem counted_by_ok {ss : List Sc} {o : List D} {ls : List Lg} {c : Option (List Str)} {μ : List SV} {Q X} (hb : Bk ss) (hl : ls.length ≤ 80) (ho : ∀ l ∈ ls, l.Ok) (hc : Cl c)
    (h0 : sound ss (shut c) ls = false → Q (.dat .non) μ) (h1 : ∀ runs : List (List (Lg × Sc)), sound ss (shut c) ls = true → runs.flatten = ls.filterMap (pr ss (shut c)) → Q (.own (runs.map runV)) μ) :
    Wf F_counted_by [.dat (bkD ss o), .dat (.tup (ls.map Lg.d)), .dat (clD c)] μ Q X := by
  unfold F_counted_by fb_counted_by
  simp [wf_run]
  refine found_by_ok hb hl ho hc ?_
  simp
  refine forL_ind (fun pre S => CbI (bkD ss o) (.tup (ls.map Lg.d)) (clD c) ss (shut c) μ pre S ∧ S.μ = μ) ⟨⟨none, none, none, none, [], true, by simp, rfl, rfl, by simp, by simp, by simp⟩, rfl⟩ (fun pre l post S e hI => ?_) (fun S hI => ?_)
  · obtain ⟨ρ, μ'⟩ := S
    obtain ⟨hI, rfl⟩ := hI
    refine counted_step (by rw [e] at hl; simp at hl; omega) hI (fun hs => ?_) (fun S1 hI1 => ?_)
    · simp
      exact h0 (by rw [e, show pre ++ l :: post = (pre ++ [l]) ++ post by simp]; exact sound_bad hs)
    · refine ⟨hI1, ?_⟩
      obtain ⟨_, _, _, _, _, _, rfl, _⟩ := hI1
      rfl
  · obtain ⟨⟨y5, y6, y7, y8, runs, fresh, rfl, k1, k2, _⟩, _⟩ := hI
    simpa using h1 runs k1 k2
end FL

namespace FL
open PySem PySem.Spec PyProof.Rows L2 L3
theorem meets_ok {ss : List Sc} {o : List D} {ls : List Lg} {c : Option (List Str)} {μ : List SV} {Q X} (hb : Bk ss) (hl : ls.length ≤ 80) (ho : ∀ l ∈ ls, l.Ok) (hc : Cl c) (h : Q (.dat (.bl (sound ss (shut c) ls))) μ) :
    Wf F_meets [.dat (bkD ss o), .dat (.tup (ls.map Lg.d)), .dat (clD c)] μ Q X := by
  unfold F_meets fb_meets
  simp [wf_run]
  refine counted_by_ok hb hl ho hc (fun e => ?_) (fun runs e _ => ?_) <;> (rw [e] at h; simpa using h)
def prs (ss : List Sc) (c : List Str) (ls : List Lg) : List (Lg × Sc) := if sound ss c ls then ls.filterMap (pr ss c) else []
theorem prs_len {ss : List Sc} {c : List Str} {ls : List Lg} : (prs ss c ls).length ≤ ls.length := by
  unfold prs; split
  · exact List.length_filterMap_le _ _
  · simp
theorem peeks_runs {runs : List (List (Lg × Sc))} : peeks (runs.map runV) = some (runs.map fun r => .lst (r.map pD)) := peeks_mapg fun r _ => by simp
theorem flat_pre {α : Type} {xs : List (List α)} {pre post : List (List α)} {x : List α} (e : xs = pre ++ x :: post) : pre.flatten.length + x.length ≤ xs.flatten.length := by
  rw [e]; simp
theorem pairs_of_ok {ss : List Sc} {o : List D} {ls : List Lg} {c : Option (List Str)} {μ : List SV} {Q X} (hb : Bk ss) (hl : ls.length ≤ 80) (ho : ∀ l ∈ ls, l.Ok) (hc : Cl c) (h : Q (runV (prs ss (shut c) ls)) μ) :
    Wf F_pairs_of [.dat (bkD ss o), .dat (.tup (ls.map Lg.d)), .dat (clD c)] μ Q X := by
  unfold F_pairs_of fb_pairs_of
  simp [wf_run]
  have go : ∀ runs : List (List (Lg × Sc)), runs.flatten = prs ss (shut c) ls → Ws (forF (.nm 4) lb_pairs_of_1 (runs.map fun r => .lst (r.map pD))) ⟨[some (.dat (bkD ss o)), some (.dat (.tup (ls.map Lg.d))), some (.dat (clD c)), some (.own []), none], μ⟩ (sq (fRet (fVar 3)) (retP Q X)) := fun runs hr => by
    refine forL_ind (fun pre S => ∃ y4, S = ⟨[some (.dat (bkD ss o)), some (.dat (.tup (ls.map Lg.d))), some (.dat (clD c)), some (runV pre.flatten), y4], μ⟩) ⟨none, by simp⟩ (fun pre r post S e hI => ?_) (fun S hI => ?_)
    · obtain ⟨y4, rfl⟩ := hI
      have := flat_pre e
      have l2 := prs_len (ss := ss) (c := shut c) (ls := ls)
      rw [hr] at this
      unfold lb_pairs_of_1
      simp
      have e2 : (pre.map List.length).sum = pre.flatten.length := by simp
      have e3 : (List.map (fun x => List.length x) pre).sum = pre.flatten.length := by simp
      simp [Function.comp_def]
      omega
    · obtain ⟨y4, rfl⟩ := hI
      rw [hr]
      simpa using h
  refine counted_by_ok hb hl ho hc (fun e => ?_) (fun runs e hr => ?_)
  · have := go [] (by unfold prs; simp [e])
    simp at this ⊢
    exact this
  · have := go runs (by unfold prs; simp [e, hr])
    simp [peeks_runs]
    cases runs with
    | nil => simp at this ⊢; exact this
    | cons r rs => simp [peeks_runs] at this ⊢; exact this
theorem counted_ok {ss : List Sc} {o : List D} {ls : List Lg} {c : Option (List Str)} {μ : List SV} {Q X} (hb : Bk ss) (hl : ls.length ≤ 80) (ho : ∀ l ∈ ls, l.Ok) (hc : Cl c) (h : Q (.own ((prs ss (shut c) ls).map fun p => .dat p.1.d)) μ) :
    Wf F_counted [.dat (bkD ss o), .dat (.tup (ls.map Lg.d)), .dat (clD c)] μ Q X := by
  unfold F_counted fb_counted
  simp [wf_run]
  refine pairs_of_ok hb hl ho hc ?_
  simp
  refine ctL_map (fun p => .dat p.1.d) (Nat.le_trans prs_len (by omega)) (fun p hp => ?_) ?_
  · simp
  · simpa using h
end FL

namespace FL
open PySem PySem.Spec PyProof.Rows L2 L3
theorem fnd_app {a b : List Sc} {c : List Str} {l : Lg} : fnd (a ++ b) c l = (fnd a c l).or (fnd b c l) := by
  cases l with
  | ride => rfl
  | leg n i j => exact List.find?_append
theorem fnd_one {s : Sc} {c : List Str} {n : Str} {i j : Nat} : fnd [s] c (.leg n i j) = if s.n = n ∧ n ∉ c ∧ max i j < s.ms.length then some s else none := by
  unfold fnd
  simp only [List.find?_cons]
  split <;> simp_all
/-- the marks of a leg's section, where it counts -/
def mks (ss : List Sc) (c : List Str) (l : Lg) : List Str := ((fnd ss c l).map Sc.ms).getD []
abbrev tS (ys : List Str) : D := .tup (ys.map D.str)
theorem marks_of_ok {ss : List Sc} {o : List D} {l : Lg} {c : List Str} {μ : List SV} {Q X} (hb : Bk ss) (ho : l.Ok) (hc : Cl (some c)) (h : Q (.dat (tS (mks ss c l))) μ) :
    Wf F__law_marks_of [.dat (bkD ss o), .dat l.d, .dat (tS c)] μ Q X := by
  unfold F__law_marks_of fb__law_marks_of
  simp [wf_run]
  refine forL_ind (fun pre S => ∃ y3 y4 y5, S = ⟨[some (.dat (bkD ss o)), some (.dat l.d), some (.dat (tS c)), y3, y4, y5], μ⟩ ∧ fnd pre c l = none) ⟨none, none, none, by simp, by cases l <;> rfl⟩ (fun pre s post S e hI => ?_) (fun S hI => ?_)
  · obtain ⟨y3, y4, y5, rfl, hn⟩ := hI
    have hs : s ∈ ss := by rw [e]; simp
    unfold lb__law_marks_of_1
    cases l with
    | ride =>
      simp [Lg.d, Sc.d]
      rw [fnd_app, hn]; rfl
    | leg n i j =>
      have ein := inD_strsT (neg := true) (ys := c) (hb.ok s hs).name.2 (fun y hy => (hc.ok y hy).2)
      have hf : fnd ss c (.leg n i j) = (fnd [s] c (.leg n i j)).or (fnd post c (.leg n i j)) := by
        rw [e, show pre ++ s :: post = pre ++ ([s] ++ post) by simp, fnd_app, fnd_app, hn]; rfl
      have hm : (if i < j then (j : Int) else i) = (max i j : Nat) := by split <;> omega
      simp [Lg.d, Sc.d, ein, hm]
      rw [fnd_app, hn]
      rw [fnd_one] at hf ⊢
      refine ⟨fun h1 => ⟨fun h2 => ?_, fun h2 => ⟨fun h3 => ?_, fun h3 => ?_⟩⟩, fun h1 => ?_⟩
      · rw [if_neg (fun q => q.2.1 (h1 ▸ h2))]; rfl
      · rw [if_pos ⟨h1, h1 ▸ h2, by omega⟩] at hf
        unfold mks at h
        rw [hf] at h
        exact h
      · rw [if_neg (fun q => by omega)]; rfl
      · rw [if_neg (fun q => h1 q.1)]; rfl
  · obtain ⟨y3, y4, y5, rfl, hn⟩ := hI
    unfold mks at h
    rw [hn] at h
    simp; exact h
/-! ### the law's own telling -/
theorem mks_iff {ss : List Sc} {c : List Str} {l : Lg} (hb : Bk ss) : mks ss c l = [] ↔ fnd ss c l = none := by
  unfold mks
  cases e : fnd ss c l with
  | none => simp
  | some s =>
    have := (hb.ok s (fnd_some e).1)
    have l1 := this.len
    simp
    intro h
    rw [h] at l1; simp at l1
theorem strs_pl {ys : List Str} : (tS ys).pl := by simp
theorem mks_wd {ss : List Sc} {c : List Str} {l : Lg} (hb : Bk ss) : (mks ss c l).length ≤ 8 ∧ ∀ y ∈ mks ss c l, Wd y := by
  unfold mks
  cases e : fnd ss c l with
  | none => simp
  | some s =>
    have := hb.ok s (fnd_some e).1
    exact ⟨by have l1 := this.len; have l2 := this.few; show s.ms.length ≤ 8; omega, this.marks⟩
theorem tS_bd {ys : List Str} (hl : ys.length ≤ 20) (h : ∀ y ∈ ys, Wd y) : Bd (tS ys) 200 1 :=
  bd_tup (w := 8) (p := 0) (n := 20) (bd_map fun m hm => bd_wd (h m hm) (by decide)) (by simpa using hl)
theorem eq_tS {xs ys : List Str} (h1 : xs.length ≤ 20) (h2 : ∀ y ∈ xs, Wd y) (h3 : ys.length ≤ 20) (h4 : ∀ y ∈ ys, Wd y) : eqD (tS xs) (tS ys) = some (decide (xs = ys)) := by
  rw [Bd.eq ((tS_bd h1 h2).mono (Nat.le_refl _) (by decide)) ((tS_bd h3 h4).mono (Nat.le_refl _) (by decide)), eqT_pl strs_pl strs_pl]
  congr 1
  have : (tS xs = tS ys) ↔ xs = ys := by
    constructor
    · intro h
      exact (List.map_inj_right fun _ _ e => str_inj e).mp (D.tup.inj h)
    · intro h; rw [h]
  simp only [this]
theorem mks_eq {ss : List Sc} {c : List Str} {l : Lg} (hb : Bk ss) : eqD (tS (mks ss c l)) (.tup []) = some (fnd ss c l).isNone := by
  have := eq_tS (mks_wd (c := c) (l := l) hb |>.1 |> fun h => Nat.le_trans h (by decide)) (mks_wd hb).2 (ys := []) (by simp) (by simp)
  rw [show (D.tup []) = tS [] from rfl, this]
  congr 1
  simp only [mks_iff hb]
  cases fnd ss c l <;> simp
end FL

namespace FL
open PySem PySem.Spec PyProof.Rows L2 L3
theorem sound_zip {ss : List Sc} {c : List Str} : ∀ {ls : List Lg}, sound ss c ls = (ls.dropLast.zip ls.tail).all fun p => okp ss c p.1 p.2
  | [] => rfl
  | [a] => rfl
  | a :: b :: r => by
    show (okp ss c a b && sound ss c (b :: r)) = _
    rw [sound_zip (ls := b :: r)]
    simp [List.dropLast]
theorem _root_.List.mem_of_mem_dropLast' {α : Type} {xs : List α} {x : α} (h : x ∈ xs.dropLast) : x ∈ xs := by
  rw [List.dropLast_eq_take] at h; exact List.mem_of_mem_take h
theorem is_sound_ok {ss : List Sc} {o : List D} {ls : List Lg} {c : List Str} {μ : List SV} {Q X} (hb : Bk ss) (ho : ∀ l ∈ ls, l.Ok) (hc : Cl (some c)) (h : Q (.dat (.bl (sound ss c ls))) μ) :
    Wf F__law_is_sound [.dat (bkD ss o), .dat (.tup (ls.map Lg.d)), .dat (tS c)] μ Q X := by
  unfold F__law_is_sound fb__law_is_sound
  have e1 : ((ls.map Lg.d).dropLast.zip (ls.map Lg.d).tail).map pair2 = (ls.dropLast.zip ls.tail).map fun p => .tup [p.1.d, p.2.d] := by
    rw [← List.map_tail, List.dropLast_eq_take, ← List.map_take, List.zip_map, List.map_map, List.length_map, ← List.dropLast_eq_take]; rfl
  simp [wf_run, e1]

  rw [e1]
  refine forL_ind (fun pre S => ∃ y3 y4 y5 y6, S = ⟨[some (.dat (bkD ss o)), some (.dat (.tup (ls.map Lg.d))), some (.dat (tS c)), y3, y4, y5, y6], μ⟩ ∧ (pre.all fun p => okp ss c p.1 p.2) = true) ⟨none, none, none, none, by simp, rfl⟩ (fun pre p post S e hI => ?_) (fun S hI => ?_)
  · obtain ⟨y3, y4, y5, y6, rfl, hn⟩ := hI
    obtain ⟨a, b⟩ := p
    have hm : (a, b) ∈ ls.dropLast.zip ls.tail := by rw [e]; simp
    have ha : a ∈ ls := List.mem_of_mem_dropLast' (List.of_mem_zip hm).1
    have hb' : b ∈ ls := List.mem_of_mem_tail (List.of_mem_zip hm).2
    have hok : okp ss c a b = true → (∀ a b, (a, b) ∈ pre → okp ss c a b = true) ∧ okp ss c a b = true := fun h => ⟨fun x y hxy => List.all_eq_true.mp hn (x, y) hxy, h⟩
    unfold lb__law_is_sound_1
    simp
    refine marks_of_ok hb (ho a ha) hc ?_
    simp
    refine marks_of_ok hb (ho b hb') hc ?_
    cases ea : fnd ss c a with
    | none =>
      simp [mks_eq hb, ea]
      exact hok (by simp [okp, ea])
    | some s =>
      cases eb : fnd ss c b with
      | none =>
        simp [mks_eq hb, ea, eb]
        exact hok (by simp [okp, eb])
      | some t =>
        obtain ⟨hs, n, el, e1, e2, e3, e4⟩ := fnd_some ea
        obtain ⟨ht, n', el', e1', e2', e3', e4'⟩ := fnd_some eb
        have hd : a.d = .tup [.str n, .int a.i, .int a.j] := by rw [el]; rfl
        have hd' : b.d = .tup [.str n', .int b.i, .int b.j] := by rw [el']; rfl
        have ms : mks ss c a = s.ms := by simp [mks, ea]
        have mt : mks ss c b = t.ms := by simp [mks, eb]
        have es : eqD (tS s.ms) (.tup []) = some false := by have := mks_eq (c := c) (l := a) hb; rw [ms, ea] at this; exact this
        have et : eqD (tS t.ms) (.tup []) = some false := by have := mks_eq (c := c) (l := b) hb; rw [mt, eb] at this; exact this
        simp [hd, hd', ms, mt, es, et, Sc.at_ok e3', Sc.at_ok e4]
        refine ⟨fun heq => ?_, fun hne => ?_⟩
        · exact hok (by simp [okp, ea, eb, heq])
        · have : sound ss c ls = false := by
            rw [sound_zip, e]; simp [okp, ea, eb, hne]
          rw [this] at h
          simpa using h
  · obtain ⟨y3, y4, y5, y6, rfl, hn⟩ := hI
    rw [sound_zip, hn] at h
    simpa using h
end FL

namespace FL
open PySem PySem.Spec PyProof.Rows L2 L3
def cnt (ss : List Sc) (c : List Str) (ls : List Lg) : List Lg := ls.filter fun l => sound ss c ls && (fnd ss c l).isSome
theorem prs_cnt {ss : List Sc} {c : List Str} {ls : List Lg} : (prs ss c ls).map Prod.fst = cnt ss c ls := by
  unfold prs cnt
  cases sound ss c ls with
  | false => simp
  | true =>
    simp only [if_true, Bool.true_and]
    induction ls with
    | nil => rfl
    | cons l ls ih =>
      cases e : fnd ss c l with
      | none => simp [pr, e]; exact ih
      | some s => simp [pr, e]; exact ih
theorem cnt_len {ss : List Sc} {c : List Str} {ls : List Lg} : (cnt ss c ls).length ≤ ls.length := List.length_filter_le _ _
theorem cnt_mem {ss : List Sc} {c : List Str} {ls : List Lg} {l : Lg} (h : l ∈ cnt ss c ls) : l ∈ ls := (List.mem_filter.mp h).1
abbrev lV (ls : List Lg) : SV := .own (ls.map fun l => .dat l.d)
theorem counted_ok2 {ss : List Sc} {o : List D} {ls : List Lg} {c : Option (List Str)} {μ : List SV} {Q X} (hb : Bk ss) (hl : ls.length ≤ 80) (ho : ∀ l ∈ ls, l.Ok) (hc : Cl c) (h : Q (lV (cnt ss (shut c) ls)) μ) :
    Wf F_counted [.dat (bkD ss o), .dat (.tup (ls.map Lg.d)), .dat (clD c)] μ Q X := by
  refine counted_ok hb hl ho hc ?_
  rw [← prs_cnt, lV, List.map_map] at h
  exact h
theorem law_counted_ok {ss : List Sc} {o : List D} {ls : List Lg} {c : List Str} {μ : List SV} {Q X} (hb : Bk ss) (hl : ls.length ≤ 80) (ho : ∀ l ∈ ls, l.Ok) (hc : Cl (some c)) (h : Q (lV (cnt ss c ls)) μ) :
    Wf F__law_counted [.dat (bkD ss o), .dat (.tup (ls.map Lg.d)), .dat (tS c)] μ Q X := by
  unfold F__law_counted fb__law_counted
  simp [wf_run]
  refine is_sound_ok hb ho hc ?_
  simp
  refine ctL_filter (fun l => sound ss c ls && (fnd ss c l).isSome) (fun l => .dat l.d) (by omega) (fun l hl => ?_) ?_
  · simp
    cases e : sound ss c ls with
    | false => simp
    | true =>
      simp
      refine marks_of_ok hb (ho l hl) hc ?_
      simp [mks_eq hb]
      cases fnd ss c l <;> simp
  · simp
    exact h
theorem ft_bd {ss : List Sc} {c : List Str} {l : Lg} (hb : Bk ss) : Bd (ftD ss c l) (2 ^ 20) 64 := by
  unfold ftD
  cases e : fnd ss c l with
  | none => exact bd_non
  | some s =>
    obtain ⟨hm, n, el, e1, e2, e3, e4⟩ := fnd_some e
    exact bd_tup (w := 8) (p := 0) (n := 2) (bd_two (bd_wd ((hb.ok s hm).marks _ (Sc.mrk_mem e3)) (by decide)) (bd_wd ((hb.ok s hm).marks _ (Sc.mrk_mem e4)) (by decide))) (by simp)
theorem ends_right_ok {ss : List Sc} {o : List D} {ls : List Lg} {c : List Str} {μ : List SV} {Q X} (hb : Bk ss) (ho : ∀ l ∈ ls, l.Ok) (hc : Cl (some c)) (h : Q (.dat (.bl true)) μ) :
    Wf F__law_ends_right [.dat (bkD ss o), .dat (.tup (ls.map Lg.d)), .dat (tS c)] μ Q X := by
  unfold F__law_ends_right fb__law_ends_right
  simp [wf_run]
  refine forL_ind (fun pre S => ∃ y3 y4 y5, S = ⟨[some (.dat (bkD ss o)), some (.dat (.tup (ls.map Lg.d))), some (.dat (tS c)), y3, y4, y5], μ⟩) ⟨none, none, none, by simp⟩ (fun pre l post S e hI => ?_) (fun S hI => ?_)
  · obtain ⟨y3, y4, y5, rfl⟩ := hI
    have hll : l ∈ ls := by rw [e]; simp
    unfold lb__law_ends_right_1
    simp
    refine marks_of_ok hb (ho l hll) hc ?_
    cases l with
    | ride => simp [Lg.d]
    | leg n i j =>
      have go : Wf F_from_to [.dat (bkD ss o), .dat (.tup [.str n, .int i, .int j]), .dat (tS c)] μ (fun x μ' => x = .dat (ftD ss c (.leg n i j)) ∧ μ' = μ) (fun _ _ => False) := from_to_ok (l := .leg n i j) (c := some c) hb (ho _ hll) hc ⟨rfl, rfl⟩
      have rp := (ft_bd (c := c) (l := .leg n i j) hb).repr
      simp [Lg.d, mks_eq hb]
      cases ef : fnd ss c (.leg n i j) with
      | none =>
        have ed : ftD ss c (.leg n i j) = .non := by simp [ftD, ef]
        rw [ed] at go rp
        simp
        refine wf_mono go (fun x μ' hx => ?_) (fun _ _ h => h.elim)
        obtain ⟨rfl, rfl⟩ := hx
        simp [rp]
      | some s =>
        obtain ⟨hm, n', el, e1, e2, e3, e4⟩ := fnd_some ef
        have ms : mks ss c (.leg n i j) = s.ms := by simp [mks, ef]
        simp only [Lg.i, Lg.j] at e3 e4
        have ed : ftD ss c (.leg n i j) = .tup [.str (s.mrk i), .str (s.mrk j)] := by simp [ftD, ef, Lg.i, Lg.j]
        rw [ed] at go rp
        simp [ms, Sc.at_ok e3, Sc.at_ok e4]
        refine wf_mono go (fun x μ' hx => ?_) (fun _ _ h => h.elim)
        obtain ⟨rfl, rfl⟩ := hx
        simp [rp]
  · obtain ⟨y3, y4, y5, rfl⟩ := hI
    simpa using h
end FL

namespace FL
open PySem PySem.Spec PyProof.Rows L2 L3
theorem asked_ok {B : Int} {x : SV} {ss : List Sc} {o : List D} {ls : List Lg} {c : List Str} {Q X} (hx : Dr B x) (hB : B < 2 ^ 45) (hb : Bk ss) (hl : ls.length ≤ 80) (ho : ∀ l ∈ ls, l.Ok) (hc : Cl (some c))
    (h : ∀ x', Dr (B + 1) x' → Q (.own [.dat (.bl (sound ss c ls)), lV (cnt ss c ls)]) [x']) :
    Wf F__law_asked [.cell 0, .dat (bkD ss o), .dat (.tup (ls.map Lg.d)), .dat (tS c)] [x] Q X := by
  unfold F__law_asked fb__law_asked
  simp [wf_run]
  refine next_ok hx (by omega) (by decide) fun r1 x1 a1 b1 d1 => ?_
  simp
  refine ⟨fun h1 => ?_, fun h1 => ?_⟩
  · refine meets_ok (c := some c) hb hl ho hc ?_
    simp
    refine counted_ok2 (c := some c) hb hl ho hc ?_
    simp
    exact h x1 d1
  · refine counted_ok2 (c := some c) hb hl ho hc ?_
    simp
    refine meets_ok (c := some c) hb hl ho hc ?_
    simp
    exact h x1 d1
theorem lgs_bd {ls : List Lg} (hl : ls.length ≤ 80) (ho : ∀ l ∈ ls, l.Ok) : Bd (.lst (ls.map Lg.d)) 20000 2 ∧ Bd (.tup (ls.map Lg.d)) 20000 2 :=
  ⟨bd_lst (w := 200) (p := 1) (n := 80) (bd_map fun l h => lg_bd (ho l h)) (by simpa using hl), bd_tup (w := 200) (p := 1) (n := 80) (bd_map fun l h => lg_bd (ho l h)) (by simpa using hl)⟩
/-- a book whole -/
structure BkO (ss : List Sc) (o : List D) : Prop extends Bk ss where
  o3 : o.length ≤ 3
  ob : ∀ d ∈ o, Bd d 5000 5
theorem BkO.bd {ss : List Sc} {o : List D} (h : BkO ss o) : Bd (bkD ss o) 200000 6 := by
  refine bd_tup (w := 40000) (p := 5) (n := 4) (fun d hd => ?_) (by have := h.o3; simp; omega)
  rcases List.mem_cons.mp hd with rfl | hd
  · exact bd_tup (w := 5000) (p := 3) (n := 6) (bd_map fun s hs => (h.ok s hs).bd) (by simpa using h.few)
  · exact (h.ob d hd).mono (by decide) (by decide)
theorem cl_bd {c : Option (List Str)} (hc : Cl c) : Bd (clD c) 200 1 := by
  cases c with
  | none => exact bd_non
  | some c => exact tS_bd hc.few hc.ok
theorem right_ok {B : Int} {x : SV} {ss : List Sc} {o : List D} {ls : List Lg} {c : List Str} {Q X} (hx : Dr B x) (hB : B < 2 ^ 44) (hb : BkO ss o) (hl : ls.length ≤ 80) (ho : ∀ l ∈ ls, l.Ok) (hc : Cl (some c))
    (h : ∀ x', Dr (B + 2) x' → Q (.dat (.bl true)) [x']) :
    Wf F__law_right [.cell 0, .dat (bkD ss o), .dat (.tup (ls.map Lg.d)), .dat (tS c)] [x] Q X := by
  have r1 : Bd (.lst [bkD ss o, .tup (ls.map Lg.d), tS c]) (2 ^ 20) 64 := bd_lst (w := 200000) (p := 6) (n := 3) (bd_three (hb.bd.mono (by decide) (by decide)) ((lgs_bd hl ho).2.mono (by decide) (by decide)) ((cl_bd hc).mono (by decide) (by decide))) (by simp)
  have lc : (cnt ss c ls).length ≤ 80 := Nat.le_trans cnt_len hl
  have r2 : Bd (.lst [.bl (sound ss c ls), .lst ((cnt ss c ls).map Lg.d)]) (2 ^ 20) 64 := bd_lst (w := 20000) (p := 2) (n := 2) (bd_two bd_bl ((lgs_bd lc fun l h => ho l (cnt_mem h)).1)) (by simp)
  have q1 := r1.repr
  have q2 := r2.repr
  unfold F__law_right fb__law_right
  simp [wf_run, q1]
  refine is_sound_ok hb.toBk ho hc ?_
  simp
  refine law_counted_ok hb.toBk hl ho hc ?_
  simp
  refine asked_ok hx (by omega) hb.toBk hl ho hc fun x1 d1 => ?_
  simp [q2]
  refine ends_right_ok hb.toBk ho hc ?_
  simp
  have hn : Cl none := ⟨by simp [shut], by simp [shut]⟩
  have ec : eqD (tS c) (.tup []) = some (decide (c = [])) := eq_tS hc.few hc.ok (ys := []) (by simp) (by simp)
  have l0 : (cnt ss [] ls).length ≤ 80 := Nat.le_trans cnt_len hl
  have r3 : Bd (.lst [.bl (sound ss [] ls), .lst ((cnt ss [] ls).map Lg.d), .bl (sound ss [] ls), .lst ((cnt ss [] ls).map Lg.d)]) (2 ^ 20) 64 :=
    bd_lst (w := 20000) (p := 2) (n := 4) (bd_four bd_bl ((lgs_bd l0 fun l h => ho l (cnt_mem h)).1) bd_bl ((lgs_bd l0 fun l h => ho l (cnt_mem h)).1)) (by simp)
  have q3 := r3.repr
  refine ⟨by omega, ?_⟩
  refine meets_ok (c := none) hb.toBk hl ho hn ?_
  simp
  refine counted_ok2 (c := none) hb.toBk hl ho hn ?_
  simp
  refine meets_ok (c := none) hb.toBk hl ho hn ?_
  simp
  refine counted_ok2 (c := none) hb.toBk hl ho hn ?_
  simp [ec, shut]
  refine ⟨fun h0 => ?_, fun h0 => ?_⟩
  · subst h0
    simp [q3]
    refine asked_ok d1 (by omega) hb.toBk hl ho hc fun x2 d2 => ?_
    simp [q1, q2]
    exact h x2 (d2.up (by omega))
  · refine asked_ok d1 (by omega) hb.toBk hl ho hc fun x2 d2 => ?_
    simp [q1, q2]
    exact h x2 (d2.up (by omega))
end FL

namespace FL
open PySem PySem.Spec PyProof.Rows L2 L3
/-- a word that the other book has not -/
theorem word1_ok {B : Int} {x : SV} {Q X} (hx : Dr B x) (hB : B < 2 ^ 40) (h : ∀ w x', Wd w → Dr (B + 1000) x' → Q (.own [.dat (.str w)]) [x']) : Wf F__law_words [.cell 0, .dat (.int 1)] [x] Q X := by
  refine words_ok2 hx hB (by omega) fun ws x' hl hw _ hd => ?_
  match ws, hl, hw with
  | [w], _, hw => exact h w x' (hw w (by simp)) hd
  | [], hl, _ => simp at hl
  | _ :: _ :: _, hl, _ => simp at hl; omega
theorem other_ok {i j n : Nat} (h : i < n) (hj : (j : Int) < n - 1) : (if j < i then j else j + 1) ≠ i ∧ (if j < i then j else j + 1) < n := by split <;> omega
theorem leg_draw {B : Int} {x : SV} {ss : List Sc} {o : List D} {Q X} (hx : Dr B x) (hB : B < 2 ^ 38) (hb : Bk ss) (h1 : ss ≠ []) (h : ∀ (l : Lg) x', l.Ok → l.isR = false → Dr (B + 2000) x' → Q (.dat l.d) [x']) :
    Wf F__law_leg [.cell 0, .dat (bkD ss o)] [x] Q X := by
  have h2 : 0 < ss.length := List.length_pos_iff.mpr h1
  have h6 := hb.few
  unfold F__law_leg fb__law_leg
  simp [wf_run]
  refine next_ok hx (by omega) (by decide) fun r1 x1 a1 b1 d1 => ?_
  simp
  refine next_ok d1 (by omega) (by omega) fun r2 x2 a2 b2 d2 => ?_
  simp
  refine ob_at a2 (by omega) fun s hs => ?_
  have ok := hb.ok s hs
  have hlen := ok.len
  have hfew := ok.few
  have htwo := ok.two
  simp [Sc.d]
  refine ⟨fun hw => ?_, fun hw => ?_⟩
  all_goals
    refine next_ok d2 (by omega) (by omega) fun r3 x3 a3 b3 d3 => ?_
    simp
    refine next_ok d3 (by omega) (by omega) fun r4 x4 a4 b4 d4 => ?_
    obtain ⟨i, rfl⟩ := Int.eq_ofNat_of_zero_le a3
    obtain ⟨j, rfl⟩ := Int.eq_ofNat_of_zero_le a4
    have fin : ∀ n x', Wd n → Dr (B + 1500) x' → (j < i → Q (.dat (.tup [.str n, .int i, .int j])) [x']) ∧ (¬ j < i → Q (.dat (.tup [.str n, .int i, .int (j + 1)])) [x']) := fun n x' hn hd => ⟨fun hji => h (.leg n i j) x' ⟨hn, by omega, by omega, by omega⟩ rfl (hd.up (by omega)), fun hji => h (.leg n i (j + 1)) x' ⟨hn, by omega, by omega, by omega⟩ rfl (hd.up (by omega))⟩
    simp
    refine ⟨fun h0 => ?_, fun h0 => ?_⟩
    · refine word1_ok d4 (by omega) fun w x5 hw5 d5 => ?_
      have := fin w x5 hw5 (d5.up (by omega))
      simp at this ⊢
      exact this
    · have := fin s.n x4 ok.name (d4.up (by omega))
      simp at this ⊢
      exact this
/-- where a leg ends -/
def ende (ss : List Sc) (l : Lg) : Str := ((fnd ss [] l).map fun s => s.mrk l.j).getD ""
theorem end_ok {ss : List Sc} {o : List D} {l : Lg} {μ : List SV} {Q X} (hr : l.isR = false) (h : Q (.dat (.str (ende ss l))) μ) :
    Wf F__law_end [.dat (bkD ss o), .dat l.d] μ Q X := by
  cases l with
  | ride => cases hr
  | leg n i j =>
    unfold F__law_end fb__law_end
    simp [wf_run]
    refine forL_ind (fun pre S => ∃ y2 y3 y4, S = ⟨[some (.dat (bkD ss o)), some (.dat (Lg.leg n i j).d), y2, y3, y4], μ⟩ ∧ fnd pre [] (.leg n i j) = none) ⟨none, none, none, by simp, rfl⟩ (fun pre s post S e hI => ?_) (fun S hI => ?_)
    · obtain ⟨y2, y3, y4, rfl, hn⟩ := hI
      unfold lb__law_end_1
      have hf : fnd ss [] (.leg n i j) = (fnd [s] [] (.leg n i j)).or (fnd post [] (.leg n i j)) := by
        rw [e, show pre ++ s :: post = pre ++ ([s] ++ post) by simp, fnd_app, fnd_app, hn]; rfl
      have hm : (if i < j then (j : Int) else i) = (max i j : Nat) := by split <;> omega
      simp [Lg.d, Sc.d, hm]
      rw [fnd_app, hn]
      rw [fnd_one] at hf ⊢
      refine ⟨fun h1 => ⟨fun h3 => ?_, fun h3 => ?_⟩, fun h1 => ?_⟩
      · rw [if_pos ⟨h1, by simp, h3⟩] at hf
        have hj : j < s.ms.length := by omega
        unfold ende at h
        rw [hf] at h
        simp [Sc.at_ok hj]
        exact h
      · rw [if_neg (fun q => by omega)]; rfl
      · rw [if_neg (fun q => h1 q.1)]; rfl
    · obtain ⟨y2, y3, y4, rfl, hn⟩ := hI
      unfold ende at h
      rw [hn] at h
      simpa using h
abbrev trD (t : Str × Nat × Nat) : D := .tup [.str t.1, .int t.2.1, .int t.2.2]
theorem enum_strs {ys : List Str} : enumD (ys.map D.str) = ((List.range ys.length).zip ys).map fun p => .tup [.int (p.1 : Int), .str p.2] := by
  unfold enumD
  rw [List.length_map, List.zip_map_right, List.map_map]; rfl
theorem on_ok {B : Int} {x : SV} {ss : List Sc} {o : List D} {here : Str} {Q X} (hx : Dr B x) (hB : B < 2 ^ 38) (hb : Bk ss) (hh : ∃ s ∈ ss, here ∈ s.ms) (h : ∀ (l : Lg) x', l.Ok → l.isR = false → Dr (B + 2000) x' → Q (.dat l.d) [x']) :
    Wf F__law_on [.cell 0, .dat (bkD ss o), .dat (.str here)] [x] Q X := by
  have h6 := hb.few
  unfold F__law_on fb__law_on
  simp [wf_run]
  refine forL_ind (fun pre S => ∃ y4 y5 y6 fs, S = ⟨[some (.cell 0), some (.dat (bkD ss o)), some (.dat (.str here)), some (.own (fs.map fun t => .dat (trD t))), y4, y5, y6, none, none, none, none, none], [x]⟩ ∧ (∀ t ∈ fs, Wd t.1 ∧ t.2.1 < t.2.2 ∧ 2 ≤ t.2.2 ∧ t.2.2 ≤ 8) ∧ fs.length ≤ 8 * pre.length ∧ ((∃ s ∈ pre, here ∈ s.ms) → fs ≠ []))
    ⟨none, none, none, [], by simp, by simp, by simp, by simp⟩ (fun pre s post S e hI => ?_) (fun S hI => ?_)
  · obtain ⟨y4, y5, y6, fs, rfl, k1, k2, k3⟩ := hI
    have ok := hb.ok s (by rw [e]; simp)
    have hlen := ok.len
    have hfew := ok.few
    have htwo := ok.two
    have hpl : pre.length ≤ 6 := by rw [e] at h6; simp at h6; omega
    unfold lb__law_on_1
    simp [Sc.d, enum_strs]
    refine ctL_filter (fun p => decide (p.2 = here)) (fun p => .dat (trD (s.n, p.1, s.ms.length))) (by simp; omega) (fun p hp => ?_) ?_
    · simp
    · simp
      have hz : ((List.range s.ms.length).zip s.ms).length = s.ms.length := by simp
      have hfl : (((List.range s.ms.length).zip s.ms).filter fun p => decide (p.2 = here)).length ≤ s.ms.length := by
        have := List.length_filter_le (fun p : Nat × Str => decide (p.2 = here)) ((List.range s.ms.length).zip s.ms)
        rw [hz] at this; exact this
      refine ⟨by omega, _, _, _, fs ++ (((List.range s.ms.length).zip s.ms).filter fun p => decide (p.2 = here)).map fun p => (s.n, p.1, s.ms.length), ⟨by simp [Function.comp_def], rfl, rfl, rfl⟩, ?_, by rw [List.length_append, List.length_map]; omega, ?_⟩
      · intro a b c' hm
        rcases List.mem_append.mp hm with hm | hm
        · exact k1 _ hm
        · obtain ⟨p, hp, ep⟩ := List.mem_map.mp hm
          cases ep
          have := (List.of_mem_zip (List.mem_filter.mp hp).1).1
          rw [List.mem_range] at this
          exact ⟨ok.name, this, by omega, by omega⟩
      · rintro (⟨a, ha, hha⟩ | hha)
        · have := k3 ⟨a, ha, hha⟩
          simp [this]
        · obtain ⟨k, hk, ek⟩ := List.getElem_of_mem hha
          have : (k, here) ∈ ((List.range s.ms.length).zip s.ms).filter fun p => decide (p.2 = here) := by
            refine List.mem_filter.mpr ⟨?_, by simp⟩
            refine List.mem_iff_getElem?.mpr ⟨k, ?_⟩
            rw [List.getElem?_zip_eq_some]
            exact ⟨List.getElem?_range hk, by rw [List.getElem?_eq_getElem hk, ek]⟩
          intro hz0
          have h0 := (List.append_eq_nil_iff.mp hz0).2
          rw [List.map_eq_nil_iff] at h0
          rw [h0] at this
          cases this
  · obtain ⟨y4, y5, y6, fs, rfl, k1, k2, k3⟩ := hI
    have k3 := k3 hh
    have l3 : 0 < fs.length := List.length_pos_iff.mpr k3
    simp
    refine next_ok hx (by omega) (by omega) fun r1 x1 a1 b1 d1 => ?_
    simp
    refine ob_ixN a1 b1 fun z hz => ?_
    obtain ⟨⟨n, i, m⟩, hv⟩ : ∃ v, fs[z]? = some v := ⟨_, List.getElem?_eq_getElem hz⟩
    obtain ⟨w1, w2, w3, w4⟩ := k1 _ (List.mem_of_getElem? hv)
    simp only at w1 w2 w3 w4
    simp [hv]
    refine next_ok d1 (by omega) (by omega) fun r2 x2 a2 b2 d2 => ?_
    obtain ⟨j, rfl⟩ := Int.eq_ofNat_of_zero_le a2
    simp
    refine ⟨fun hji => ?_, fun hji => ?_⟩
    · exact h (.leg n i j) x2 ⟨w1, by omega, by omega, by omega⟩ rfl (d2.up (by omega))
    · exact h (.leg n i (j + 1)) x2 ⟨w1, by omega, by omega, by omega⟩ rfl (d2.up (by omega))
end FL

namespace FL
open PySem PySem.Spec PyProof.Rows L2 L3
theorem ende_mem {ss : List Sc} {l : Lg} (h : ende ss l ≠ "") : ∃ s ∈ ss, ende ss l ∈ s.ms := by
  unfold ende at h ⊢
  cases e : fnd ss [] l with
  | none => rw [e] at h; exact absurd rfl h
  | some s =>
    obtain ⟨hm, n, el, e1, e2, e3, e4⟩ := fnd_some e
    exact ⟨s, hm, Sc.mrk_mem e4⟩
theorem ride_d : Lg.ride.d = .tup [.str "ride"] := rfl
theorem legs_step {B m : Int} {x : SV} {ss : List Sc} {o : List D} {pre : List Lg} {l : Lg} {b : Bool} {y5 y6 : Option SV} {P : SO → Prop} (hx : Dr B x) (hB : B < 2 ^ 37) (hb : Bk ss) (h1 : ss ≠ []) (hm : m ≤ 20) (hp : (pre.length : Int) + 1 < m) (hl : l.isR = false)
    (h : ∀ (new : List Lg) (l' : Lg) x' y5 y6, (∀ a ∈ new ++ [l'], a.Ok) → l'.isR = false → new.length ≤ 1 → (pre.length : Int) + 2 + new.length ≤ m → Dr (B + 5000) x' → P (.nx ⟨[some (.cell 0), some (.dat (bkD ss o)), some (.dat (.int m)), some (lV (pre ++ [l] ++ new ++ [l'])), some (.dat (.bl b)), y5, y6], [x']⟩)) :
    Ws lb__law_legs_1 ⟨[some (.cell 0), some (.dat (bkD ss o)), some (.dat (.int m)), some (lV (pre ++ [l])), some (.dat (.bl b)), y5, y6], [x]⟩ P := by
  unfold lb__law_legs_1
  simp
  refine end_ok hl ?_
  simp
  refine next_ok hx (by omega) (by decide) fun r x1 a1 b1 d1 => ?_
  simp [-ws_app, -ws_seq]
  have oneL : ∀ (y5 y6 : Option SV) (l' : Lg) (x' : SV), l'.Ok → l'.isR = false → Dr (B + 3000) x' → P (.nx ⟨[some (.cell 0), some (.dat (bkD ss o)), some (.dat (.int m)), some (.own (pre.map (fun l => .dat l.d) ++ [.dat l.d, .dat l'.d])), some (.dat (.bl b)), y5, y6], [x']⟩) := fun y5 y6 l' x' k1 k2 d2 => by
    have := h [] l' x' y5 y6 (by simpa using k1) k2 (by simp) (by simp; omega) (d2.up (by omega))
    simpa [lV] using this
  have twoL : ∀ (y5 y6 : Option SV) (l' : Lg) (x' : SV), (pre.length : Int) + 1 + 2 ≤ m → l'.Ok → l'.isR = false → Dr (B + 3000) x' → P (.nx ⟨[some (.cell 0), some (.dat (bkD ss o)), some (.dat (.int m)), some (.own (pre.map (fun l => .dat l.d) ++ [.dat l.d, .dat (.tup [.str "ride"]), .dat l'.d])), some (.dat (.bl b)), y5, y6], [x']⟩) := fun y5 y6 l' x' k0 k1 k2 d2 => by
    have := h [.ride] l' x' y5 y6 (by simpa [Lg.Ok] using k1) k2 (by simp) (by simp; omega) (d2.up (by omega))
    simpa [lV, ride_d] using this
  have len : ∀ y5 y6, Ws (fAppend (fVar 3) (fGo F__law_leg [] (fCons (fVar 0) (fCons (fVar 1) fNil)))) ⟨[some (.cell 0), some (.dat (bkD ss o)), some (.dat (.int m)), some (lV (pre ++ [l])), some (.dat (.bl b)), y5, y6], [x1]⟩ P := fun y5 y6 => by
    simp
    refine leg_draw d1 (by omega) hb h1 fun l' x' k1 k2 d2 => ?_
    simp
    exact ⟨by omega, oneL _ _ _ _ k1 k2 (d2.up (by omega))⟩
  have onn : ∀ y6, ende ss l ≠ "" → Ws (fAppend (fVar 3) (fGo F__law_on [] (fCons (fVar 0) (fCons (fVar 1) (fCons (fVar 5) fNil))))) ⟨[some (.cell 0), some (.dat (bkD ss o)), some (.dat (.int m)), some (lV (pre ++ [l])), some (.dat (.bl b)), some (.dat (.str (ende ss l))), y6], [x1]⟩ P := fun y6 he => by
    simp
    refine on_ok d1 (by omega) hb (ende_mem he) fun l' x' k1 k2 d2 => ?_
    simp
    exact ⟨by omega, oneL _ _ _ _ k1 k2 (d2.up (by omega))⟩
  have rid : ∀ y5 y6, (pre.length : Int) + 1 + 2 ≤ m → Ws (fSeq (fAppend (fVar 3) (fTup (fCons (fC (.str "ride")) fNil))) (fAppend (fVar 3) (fGo F__law_leg [] (fCons (fVar 0) (fCons (fVar 1) fNil))))) ⟨[some (.cell 0), some (.dat (bkD ss o)), some (.dat (.int m)), some (lV (pre ++ [l])), some (.dat (.bl b)), y5, y6], [x1]⟩ P := fun y5 y6 hh => by
    simp
    refine ⟨by omega, leg_draw d1 (by omega) hb h1 fun l' x' k1 k2 d2 => ?_⟩
    simp
    exact ⟨by omega, twoL _ _ _ _ hh k1 k2 (d2.up (by omega))⟩
  cases b <;> simp [-ws_app, -ws_seq]
  all_goals
    repeat' first | (intro _) | (refine And.intro ?_ ?_)
    all_goals first
      | exact len _ _
      | exact onn _ (by assumption)
      | exact rid _ _ (by assumption)
      | omega
theorem legs_ok {B m : Int} {x : SV} {ss : List Sc} {o : List D} {Q X} (hx : Dr B x) (hB : B < 2 ^ 36) (hb : Bk ss) (h1 : ss ≠ []) (hm : 1 ≤ m ∧ m ≤ 20) (h : ∀ (ls : List Lg) x', (ls.length : Int) ≤ m → (∀ l ∈ ls, l.Ok) → ls ≠ [] → Dr (B + 110000) x' → Q (.dat (.tup (ls.map Lg.d))) [x']) :
    Wf F__law_legs [.cell 0, .dat (bkD ss o), .dat (.int m)] [x] Q X := by
  unfold F__law_legs fb__law_legs
  simp [wf_run]
  refine leg_draw hx (by omega) hb h1 fun l0 x1 k1 k2 d1 => ?_
  simp
  refine next_ok d1 (by omega) (by decide) fun r x2 a2 b2 d2 => ?_
  simp
  refine whileF_ind (m := m.toNat) (fun k S => ∃ pre l x' b y5 y6, S = ⟨[some (.cell 0), some (.dat (bkD ss o)), some (.dat (.int m)), some (lV (pre ++ [l])), some (.dat (.bl b)), y5, y6], [x']⟩ ∧ (∀ l' ∈ pre ++ [l], l'.Ok) ∧ l.isR = false ∧ pre.length + 1 ≤ m.toNat ∧ k + pre.length = m.toNat ∧ Dr (B + 5000 * (pre.length + 1)) x')
    ⟨[], l0, x2, _, none, none, by simp; rfl, by simpa using k1, k2, by simp; omega, by simp, d2.up (by simp; omega)⟩ (by omega) (fun k S hI => ?_)
  obtain ⟨pre, l, x', b, y5, y6, rfl, q1, q2, q3, q4, q5⟩ := hI
  simp
  refine ⟨fun hlt => ?_, fun hge => ?_⟩
  · refine legs_step q5 (by omega) hb h1 (by omega) hlt q2 fun new l' x'' y5 y6 w1 w2 w3 w4 w5 => ?_
    refine ⟨k - (new.length + 1), by omega, pre ++ [l] ++ new, l', x'', b, y5, y6, rfl, fun a ha => ?_, w2, ?_, ?_, w5.up ?_⟩
    · rw [List.append_assoc] at ha
      rcases List.mem_append.mp ha with ha | ha
      · exact q1 a ha
      · exact w1 a ha
    · simp; omega
    · simp; omega
    · simp; omega
  · have := h (pre ++ [l]) x' (by simp; omega) q1 (by simp) (q5.up (by omega))
    simpa [lV] using this
end FL

namespace FL
open PySem PySem.Spec PyProof.Rows L2 L3
abbrev secV (ss : List Sc) : SV := .own (ss.map fun s => .dat s.d)
theorem secs_nil {ts : List Sc} (hl : ts.length ≤ 6) (h : ∀ t ∈ ts, t.Ok) : eqD (.lst (ts.map Sc.d)) (.lst []) = some (decide (ts = [])) := by
  have b1 : Bd (.lst (ts.map Sc.d)) 40000 5 := bd_lst (w := 5000) (p := 3) (n := 6) (bd_map fun t ht => (h t ht).bd) (by simpa using hl)
  have b2 : Bd (.lst []) 40000 5 := bd_lst (w := 5000) (p := 3) (n := 6) (by simp) (by simp)
  rw [Bd.eq (b1.mono (Nat.le_refl _) (by decide)) (b2.mono (Nat.le_refl _) (by decide)), eqT_pl (by simp; exact fun _ _ => Sc.pl) (by simp)]
  congr 1
  cases ts <;> simp
theorem other_step {B : Int} {x : SV} {db : D} {s : Sc} {ts : List Sc} {y6 : Option SV} {P : SO → Prop} (hx : Dr B x) (hB : B < 2 ^ 39) (ok : s.Ok) (hl : ts.length ≤ 6) (ht : ∀ t ∈ ts, t.Ok)
    (h0 : ∀ x' y3 y4 y5 y6, Dr (B + 1) x' → P (.nx ⟨[some (.cell 0), some (.dat db), some (secV ts), y3, y4, y5, y6], [x']⟩))
    (h1 : ∀ (s' : Sc) x' y3 y4 y5 y6, s'.Ok → s'.n = s.n → Dr (B + 1) x' → P (.nx ⟨[some (.cell 0), some (.dat db), some (secV (ts ++ [s'])), y3, y4, y5, y6], [x']⟩)) :
    Ob (tgS (.tp [.nm 3, .nm 4, .nm 5]) s.d [some (.cell 0), some (.dat db), some (secV ts), none, none, none, y6]) fun ρ => Ws lb__law_other_book_1 ⟨ρ, [x]⟩ P := by
  have hlen := ok.len
  have hfew := ok.few
  have htwo := ok.two
  have o1 : 2 < s.ms.length → Sc.Ok ⟨s.n, s.ms.dropLast, s.rw.dropLast⟩ := fun h2 => ⟨by simp; omega, by simp; omega, by simp; omega, ok.name, fun m hm => ok.marks m (List.mem_of_mem_dropLast' hm), fun t ht => ok.rows t (List.mem_of_mem_dropLast' ht)⟩
  have o2 : Sc.Ok ⟨s.n, s.ms.reverse, s.rw.reverse⟩ := ⟨by simp; omega, by simp; omega, by simp; omega, ok.name, fun m hm => ok.marks m (by simpa using hm), fun t ht => ok.rows t (by simpa using ht)⟩
  have en := secs_nil hl ht
  unfold lb__law_other_book_1
  simp [Sc.d]
  refine next_ok hx (by omega) (by decide) fun r x1 a1 b1 d1 => ?_
  have add : ∀ s' : Sc, s'.Ok → s'.n = s.n → P (.nx ⟨[some (.cell 0), some (.dat db), some (.own (ts.map (fun s => .dat s.d) ++ [.dat (.tup [.str s'.n, .tup (s'.ms.map D.str), .tup (s'.rw.map enc)])])), some (.dat (.str s.n)), some (.dat (.tup (s.ms.map D.str))), some (.dat (.tup (s.rw.map enc))), some (.dat (.int r))], [x1]⟩) := fun s' w1 w2 => by
    have := h1 s' x1 (some (.dat (.str s.n))) (some (.dat (.tup (s.ms.map D.str)))) (some (.dat (.tup (s.rw.map enc)))) (some (.dat (.int r))) w1 w2 d1
    simp only [secV, List.map_append, List.map_cons, List.map_nil] at this
    exact this
  have add1 := fun h2 => add ⟨s.n, s.ms.dropLast, s.rw.dropLast⟩ (o1 h2) rfl
  have add2 := add ⟨s.n, s.ms.reverse, s.rw.reverse⟩ o2 rfl
  have add3 := add s ok rfl
  simp only [List.map_dropLast, List.map_reverse] at add1 add2
  simp [en]
  repeat' first | (intro _) | (refine And.intro ?_ ?_)
  all_goals first
    | omega
    | exact h0 _ _ _ _ _ d1
    | exact add2
    | exact add3
    | exact add1 (by omega)
theorem other_book_ok {B : Int} {x : SV} {ss : List Sc} {o : List D} {Q X} (hx : Dr B x) (hB : B < 2 ^ 38) (hb : Bk ss) (h : ∀ (ts : List Sc) x', Bk ts → Dr (B + 100) x' → Q (.dat (bkD ts [.tup [], .tup [], .tup []])) [x']) :
    Wf F__law_other_book [.cell 0, .dat (bkD ss o)] [x] Q X := by
  have h6 := hb.few
  unfold F__law_other_book fb__law_other_book
  simp [wf_run]
  refine forL_ind (fun pre S => ∃ ts x' y3 y4 y5 y6, S = ⟨[some (.cell 0), some (.dat (bkD ss o)), some (secV ts), y3, y4, y5, y6], [x']⟩ ∧ (∀ t ∈ ts, t.Ok) ∧ (ts.map Sc.n).Sublist (pre.map Sc.n) ∧ Dr (B + pre.length) x')
    ⟨[], x, none, none, none, none, by simp, by simp, by simp, by simpa using hx⟩ (fun pre s post S e hI => ?_) (fun S hI => ?_)
  · obtain ⟨ts, x', y3, y4, y5, y6, rfl, k1, k2, d1⟩ := hI
    have ok := hb.ok s (by rw [e]; simp)
    have hpl : pre.length ≤ 6 := by rw [e] at h6; simp at h6; omega
    have htl : ts.length ≤ 6 := by have := k2.length_le; simp at this; omega
    refine other_step d1 (by omega) ok htl k1 (fun x'' y3 y4 y5 y6 w => ?_) (fun s' x'' y3 y4 y5 y6 w1 w2 w => ?_)
    · exact ⟨ts, x'', y3, y4, y5, y6, rfl, k1, by rw [List.map_append]; exact k2.trans (List.sublist_append_left _ _), w.up (by simp; omega)⟩
    · refine ⟨ts ++ [s'], x'', y3, y4, y5, y6, rfl, fun t ht => ?_, ?_, w.up (by simp; omega)⟩
      · rcases List.mem_append.mp ht with ht | ht
        · exact k1 t ht
        · rw [List.mem_singleton.mp ht]; exact w1
      · rw [List.map_append, List.map_append]
        exact k2.append (by simp [w2])
  · obtain ⟨ts, x', y3, y4, y5, y6, rfl, k1, k2, d1⟩ := hI
    simp
    refine h ts x' ⟨?_, k1, k2.nodup hb.nd⟩ (d1.up (by omega))
    have := k2.length_le; simp at this; omega
end FL

namespace FL
open PySem PySem.Spec PyProof.Rows L2 L3
theorem book_ok {B m : Int} {x : SV} {Q X} (hx : Dr B x) (hB : B < 2 ^ 30) (hm : 1 ≤ m ∧ m ≤ 6) (h : ∀ (ss : List Sc) (o : List D) x', BkO ss o → ss ≠ [] → Dr (B + 10000) x' → Q (.dat (bkD ss o)) [x']) :
    Wf F__law_book [.cell 0, .dat (.int m)] [x] Q X := by
  unfold F__law_book fb__law_book
  simp [wf_run]
  refine next_ok hx (by omega) (by omega) fun r1 x1 a1 b1 d1 => ?_
  simp
  refine words_ok2 d1 (by omega) (by omega) fun names x2 n1 n2 n3 d2 => ?_
  simp
  refine next_ok d2 (by omega) (by decide) fun r3 x3 a3 b3 d3 => ?_
  simp
  refine words_ok2 d3 (by omega) (by omega) fun pool x4 p1 p2 p3 d4 => ?_
  simp
  refine ctL_ind (fun pre acc μ => ∃ ss x', acc = ss.map (fun s => SV.dat s.d) ∧ μ = [x'] ∧ (∀ s ∈ ss, s.Ok) ∧ ss.map Sc.n = pre ∧ Dr (B + 3000 + 200 * pre.length) x') (by omega) ⟨[], x4, rfl, rfl, by simp, rfl, d4.up (by simp; omega)⟩ (fun pre n post acc μ e hI => ?_) (fun acc μ hI => ?_)
  · obtain ⟨ss, x', rfl, rfl, k1, k2, dd⟩ := hI
    have hpl : pre.length ≤ 6 := by rw [e] at n1; simp at n1; omega
    simp
    refine section_ok2 dd (by omega) (n2 n (by rw [e]; simp)) ⟨by omega, by omega⟩ p3 p2 fun s x'' w1 w2 w3 w4 => ?_
    simp
    refine ⟨ss ++ [s], by simp, ?_, by simp [k2, w2], w4.up (by omega)⟩
    intro t ht
    rcases List.mem_append.mp ht with ht | ht
    · exact k1 t ht
    · rw [List.mem_singleton.mp ht]; exact w1
  · obtain ⟨ss, x5, rfl, rfl, k1, k2, d5⟩ := hI
    have hsl : ss.length = names.length := by rw [← k2, List.length_map]
    have hbk : Bk ss := ⟨by omega, k1, by rw [k2]; exact n3⟩
    have hne : ss ≠ [] := by intro h0; rw [h0] at hsl; simp at hsl; omega
    simp
    refine ⟨by omega, ?_⟩
    refine ctL_filter (fun m => ss.any fun s => decide (m ∈ s.ms)) (fun m => .dat (.str m)) (by simp; omega) (fun m hm => ?_) ?_
    · have wm := p2 m (by simpa using hm)
      simp
      refine ctL_map (fun s => .dat (.bl (decide (m ∈ s.ms)))) (by omega) (fun s hs => ?_) ?_
      · have e := inD_strsT (neg := false) (ys := s.ms) wm.2 (fun y hy => ((k1 s hs).marks y hy).2)
        simp [Sc.d, e]
      · simp [Function.comp_def]
        cases ss.any fun t => decide (m ∈ t.ms) <;> simp
    · simp
      generalize hu : ((sortStrs pool).filter fun m => ss.any fun s => decide (m ∈ s.ms)) = us
      have hus : ∀ m ∈ us, Wd m := fun m hm => by rw [← hu] at hm; exact p2 m (by simpa using (List.mem_filter.mp hm).1)
      have hul : us.length ≤ 20 := by
        rw [← hu]
        have := List.length_filter_le (fun m => ss.any fun s => decide (m ∈ s.ms)) (sortStrs pool)
        rw [sortStrs_len] at this; omega
      refine ctL_ind (fun pre acc μ => ∃ hs x', acc = sL hs ∧ μ = [x'] ∧ (∀ s ∈ hs, Wd s) ∧ hs.length ≤ pre.length ∧ Dr (B + 6000 + pre.length) x') (by omega) ⟨[], x5, rfl, rfl, by simp, by simp, d5.up (by simp; omega)⟩ (fun pre m post acc μ e hI => ?_) (fun acc μ hI => ?_)
      · obtain ⟨hs, x', rfl, rfl, q1, q2, dd⟩ := hI
        have hpl : pre.length ≤ 20 := by rw [e] at hul; simp at hul; omega
        have wm := hus m (by rw [e]; simp)
        simp
        refine next_ok dd (by omega) (by decide) fun r x'' a b d => ?_
        simp
        refine ⟨fun h0 => ?_, fun h0 => ?_⟩
        · refine ⟨hs ++ [m], by simp, fun w hw => ?_, by simp; omega, d.up (by omega)⟩
          rcases List.mem_append.mp hw with hw | hw
          · exact q1 w hw
          · rw [List.mem_singleton.mp hw]; exact wm
        · exact ⟨hs, rfl, q1, by omega, d.up (by omega)⟩
      · obtain ⟨hs, x6, rfl, rfl, q1, q2, d6⟩ := hI
        simp [-ws_seq]
        have hhs : Bd (tS hs) 5000 5 := (tS_bd (by omega) q1).mono (by decide) (by decide)
        refine ws_cut (fun S => ∃ x' b1, S = ⟨[some (.cell 0), some (.dat (.int m)), some (.dat (.lst (names.map D.str))), some (.dat (.lst (pool.map D.str))), some (.dat (.tup (ss.map Sc.d))), some (.dat (.lst (us.map D.str))), some (.dat (tS hs)), some (.dat b1), none, none, none, none], [x']⟩ ∧ Bd b1 5000 5 ∧ Dr (B + 7000) x') ?_ fun S1 hS1 => ?_
        · have e0 : Bd (.tup []) 5000 5 := bd_tup (w := 0) (p := 0) (n := 0) (by simp) (by simp)
          have e1 : Bd (.tup [.tup ((names.map D.str).take 2)]) 5000 5 := bd_tup (w := 200) (p := 1) (n := 1) (by
            intro d hd; rw [List.mem_singleton.mp hd, ← List.map_take]
            exact tS_bd (by simp; omega) fun y hy => n2 y (List.mem_of_mem_take hy)) (by simp)
          have c2 : L3.cutD (names.map D.str) none (some 2) = (names.map D.str).take 2 := cut_head (n := 2)
          simp [c2]
          refine ⟨fun hn1 => ?_, fun hn1 => ?_⟩
          · refine next_ok d6 (by omega) (by decide) fun r x7 a b d7 => ?_
            simp
            refine ⟨fun h0 => ?_, fun h0 => ?_⟩
            · exact ⟨x7, _, ⟨rfl, rfl⟩, by rw [c2]; exact e1, d7.up (by omega)⟩
            · exact ⟨x7, _, ⟨rfl, rfl⟩, e0, d7.up (by omega)⟩
          · exact ⟨x6, _, ⟨rfl, rfl⟩, e0, d6.up (by omega)⟩
        · obtain ⟨x7, b7, rfl, w1, d7⟩ := hS1
          have e0 : Bd (.tup []) 5000 5 := bd_tup (w := 0) (p := 0) (n := 0) (by simp) (by simp)
          simp
          refine next_ok d7 (by omega) (by decide) fun r x8 a b d8 => ?_
          simp
          refine ⟨fun h0 => ?_, fun h0 => ?_⟩
          · refine next_ok d8 (by omega) (by decide) fun r x9 a b d9 => ?_
            simp
            have e2 : Bd (.tup [.tup [.str "hill", .str "climb", .int (1 + r)]]) 5000 5 := bd_tup (w := 200) (p := 1) (n := 1) (by
              intro d hd; rw [List.mem_singleton.mp hd]
              exact bd_tup (w := 41) (p := 0) (n := 3) (bd_three (bd_str (by decide +kernel) (by decide)) (bd_str (by decide +kernel) (by decide)) (bd_int (by omega) (by decide))) (by simp)) (by simp)
            exact h ss [tS hs, b7, _] x9 ⟨hbk, by simp, bd_three hhs w1 e2⟩ hne (d9.up (by omega))
          · exact h ss [tS hs, b7, _] x8 ⟨hbk, by simp, bd_three hhs w1 e0⟩ hne (d8.up (by omega))
end FL

namespace FL
open PySem PySem.Spec PyProof.Rows L2 L3
/-! ### runs -/
section
variable {α β : Type}
/-- what stands between two gaps -/
def grp : List (Option α) → List (List α)
  | [] => []
  | none :: r => grp r
  | some a :: r => match r with
    | some _ :: _ => match grp r with
      | g :: gs => (a :: g) :: gs
      | [] => [[a]]
    | _ => [a] :: grp r
/-- one more at the end -/
def grpS (xs : List (Option α)) (G : List (List α)) : Option α → List (List α)
  | none => G
  | some a => match xs.getLast? with
    | some (some _) => G.dropLast ++ [(G.getLast?.getD []) ++ [a]]
    | _ => G ++ [[a]]
theorem grp_ne : ∀ {xs : List (Option α)} {a : α}, grp (some a :: xs) ≠ []
  | xs, a => by
    unfold grp
    split
    · split <;> simp
    · simp
theorem grp_mem_ne : ∀ {xs : List (Option α)} {g : List α}, g ∈ grp xs → g ≠ []
  | [], g, h => by simp [grp] at h
  | none :: r, g, h => grp_mem_ne (xs := r) h
  | [some a], g, h => by simp [grp] at h; rw [h]; simp
  | some a :: none :: r, g, h => by
    have h : g ∈ [a] :: grp (none :: r) := h
    rcases List.mem_cons.mp h with rfl | h
    · simp
    · exact grp_mem_ne h
  | some a :: some b :: r, g, h => by
    cases e : grp (some b :: r) with
    | nil => exact absurd e grp_ne
    | cons g1 gs =>
      have h : g ∈ (match grp (some b :: r) with
        | g :: gs => (a :: g) :: gs
        | [] => [[a]]) := h
      rw [e] at h
      rcases List.mem_cons.mp h with rfl | h
      · simp
      · exact grp_mem_ne (xs := some b :: r) (by rw [e]; exact List.mem_cons_of_mem _ h)
theorem grp_cc {a b : α} {r : List (Option α)} {g : List α} {gs : List (List α)} (e : grp (some b :: r) = g :: gs) : grp (some a :: some b :: r) = (a :: g) :: gs := by
  show (match grp (some b :: r) with
    | g :: gs => (a :: g) :: gs
    | [] => [[a]]) = _
  rw [e]
theorem grp_cn {a : α} {r : List (Option α)} : grp (some a :: none :: r) = [a] :: grp r := rfl
theorem grp_one {a : α} : grp [some a] = [[a]] := rfl
theorem grp_n {r : List (Option α)} : grp (none :: r) = grp r := rfl
theorem grp_snoc : ∀ {xs : List (Option α)} {x : Option α}, grp (xs ++ [x]) = grpS xs (grp xs) x
  | [], none => rfl
  | [], some a => rfl
  | none :: r, x => by
    show grp (r ++ [x]) = _
    rw [grp_snoc (xs := r)]
    cases x with
    | none => rfl
    | some a =>
      cases r with
      | nil => rfl
      | cons y r => unfold grpS; rw [List.getLast?_cons_cons]; rfl
  | [some a], none => rfl
  | [some a], some b => rfl
  | some a :: none :: r, x => by
    show [a] :: grp (none :: r ++ [x]) = _
    rw [grp_snoc (xs := none :: r)]
    cases x with
    | none => rfl
    | some b =>
      unfold grpS
      rw [List.getLast?_cons_cons]
      cases e : (none :: r).getLast? with
      | none => rfl
      | some z =>
        cases z with
        | none => rfl
        | some z =>
          show [a] :: ((grp r).dropLast ++ [((grp r).getLast?.getD []) ++ [b]]) = ([a] :: grp r).dropLast ++ [(([a] :: grp r).getLast?.getD []) ++ [b]]
          have hne : grp r ≠ [] := by
            cases r with
            | nil => simp at e
            | cons y r =>
              rw [List.getLast?_cons_cons] at e
              intro h0
              have key : ∀ (l : List (Option α)), l.getLast? = some (some z) → grp l ≠ [] := by
                intro l
                induction l with
                | nil => intro h; simp at h
                | cons y l ih =>
                  intro h
                  cases y with
                  | some y => exact grp_ne
                  | none =>
                    cases l with
                    | nil => simp at h
                    | cons w l => rw [List.getLast?_cons_cons] at h; exact ih h
              exact key _ e h0
          obtain ⟨g, gs, hg⟩ := List.exists_cons_of_ne_nil hne
          rw [hg, List.dropLast_cons_cons, List.getLast?_cons_cons, List.cons_append]
  | some a :: some b :: r, x => by
    obtain ⟨g, gs, hg⟩ := List.exists_cons_of_ne_nil (grp_ne (xs := r) (a := b))
    have e1 := grp_snoc (xs := some b :: r) (x := x)
    rw [hg] at e1
    cases x with
    | none =>
      have e1 : grp (some b :: (r ++ [none])) = g :: gs := e1
      show grp (some a :: some b :: (r ++ [none])) = grp (some a :: some b :: r)
      rw [grp_cc e1, grp_cc hg]
    | some c =>
      unfold grpS at e1 ⊢
      rw [List.getLast?_cons_cons, grp_cc hg]
      cases e : (some b :: r).getLast? with
      | none => simp at e
      | some z =>
        rw [e] at e1
        cases z with
        | none =>
          have e1 : grp (some b :: (r ++ [some c])) = g :: (gs ++ [[c]]) := e1
          show grp (some a :: some b :: (r ++ [some c])) = _
          rw [grp_cc e1]; rfl
        | some z =>
          have e1 : grp (some b :: (r ++ [some c])) = (g :: gs).dropLast ++ [((g :: gs).getLast?.getD []) ++ [c]] := e1
          show grp (some a :: some b :: (r ++ [some c])) = ((a :: g) :: gs).dropLast ++ [(((a :: g) :: gs).getLast?.getD []) ++ [c]]
          cases gs with
          | nil => rw [grp_cc (g := g ++ [c]) (gs := []) (by simpa using e1)]; simp
          | cons g2 gs =>
            rw [List.dropLast_cons_cons, List.getLast?_cons_cons, List.cons_append] at e1 ⊢
            rw [grp_cc e1]
theorem grp_flat : ∀ {xs : List (Option α)}, (grp xs).flatten = xs.filterMap id
  | [] => rfl
  | none :: r => by rw [grp_n, grp_flat]; rfl
  | [some a] => rfl
  | some a :: none :: r => by rw [grp_cn, List.flatten_cons, grp_flat]; rfl
  | some a :: some b :: r => by
    obtain ⟨g, gs, hg⟩ := List.exists_cons_of_ne_nil (grp_ne (xs := r) (a := b))
    have := grp_flat (xs := some b :: r)
    rw [hg] at this
    rw [grp_cc hg, List.flatten_cons, List.cons_append, ← List.flatten_cons, this]; rfl
theorem grp_map {f : α → β} : ∀ {xs : List (Option α)}, grp (xs.map (Option.map f)) = (grp xs).map (List.map f)
  | [] => rfl
  | none :: r => grp_map (xs := r)
  | [some a] => rfl
  | some a :: none :: r => by
    show [f a] :: grp (r.map (Option.map f)) = _
    rw [grp_map (xs := r)]; rfl
  | some a :: some b :: r => by
    obtain ⟨g, gs, hg⟩ := List.exists_cons_of_ne_nil (grp_ne (xs := r) (a := b))
    have := grp_map (f := f) (xs := some b :: r)
    rw [hg] at this
    rw [grp_cc hg]
    exact grp_cc this
theorem grp_cons {a : α} {xs : List (Option α)} : grp (some a :: xs) = match xs.head? with
    | some (some _) => (a :: (grp xs).head?.getD []) :: (grp xs).tail
    | _ => [a] :: grp xs := by
  cases xs with
  | nil => rfl
  | cons y r =>
    cases y with
    | none => rfl
    | some b =>
      obtain ⟨g, gs, hg⟩ := List.exists_cons_of_ne_nil (grp_ne (xs := r) (a := b))
      rw [grp_cc hg, hg]; rfl
theorem grp_rev : ∀ {xs : List (Option α)}, grp xs.reverse = ((grp xs).map List.reverse).reverse
  | [] => rfl
  | none :: r => by
    rw [List.reverse_cons, grp_snoc, grp_n]
    exact grp_rev (xs := r)
  | some a :: r => by
    rw [List.reverse_cons, grp_snoc, grp_rev (xs := r), grp_cons]
    unfold grpS
    rw [List.getLast?_reverse]
    cases e : r.head? with
    | none => simp
    | some z =>
      cases z with
      | none => simp
      | some b =>
        obtain ⟨r', rfl⟩ : ∃ r', r = some b :: r' := by
          cases r with
          | nil => cases e
          | cons y r => cases e; exact ⟨r, rfl⟩
        obtain ⟨g, gs, hg⟩ := List.exists_cons_of_ne_nil (grp_ne (xs := r') (a := b))
        rw [hg]
        simp
end
end FL

namespace FL
open PySem PySem.Spec PyProof.Rows L2 L3
/-- the walk's state, with its runs -/
def CbJ (d0 d1 d2 : D) (ss : List Sc) (c : List Str) (μ : List SV) (pre : List Lg) (S : Sto) : Prop := ∃ (y5 y6 y7 y8 : Option SV) (runs : List (List (Lg × Sc))) (fresh : Bool), S = ⟨[some (.dat d0), some (.dat d1), some (.dat d2), some (.own (runs.map runV)), some (.dat (.bl fresh)), y5, y6, y7, y8], μ⟩ ∧
  sound ss c pre = true ∧ runs = grp (pre.map (pr ss c)) ∧ runs.flatten = pre.filterMap (pr ss c) ∧ runs.length ≤ pre.length ∧
    (fresh = true → ∀ a, pre.getLast? = some a → fnd ss c a = none) ∧ (fresh = false → ∃ R r a s, runs = R ++ [r ++ [(a, s)]] ∧ pre.getLast? = some a ∧ fnd ss c a = some s)
theorem counted_stepJ {d0 d1 d2 : D} {ss : List Sc} {c : List Str} {μ : List SV} {pre : List Lg} {l : Lg} {ρ : List (Option SV)} {P : SO → Prop} (hl : pre.length ≤ 80) (hI : CbJ d0 d1 d2 ss c μ pre ⟨ρ, μ⟩)
    (h0 : sound ss c (pre ++ [l]) = false → P (.rt (.dat .non) μ)) (h1 : ∀ S1, CbJ d0 d1 d2 ss c μ (pre ++ [l]) S1 → P (.nx S1)) : Ob (tgS (.tp [.nm 5, .nm 6]) (fdD ss c l) ρ) fun ρ => Ws lb_counted_by_1 ⟨ρ, μ⟩ P := by
  obtain ⟨y5, y6, y7, y8, runs, fresh, e, k1, k0, k2, k5, k3, k4⟩ := hI
  cases e
  unfold lb_counted_by_1
  simp [fdD]
  have fm : (pre ++ [l]).filterMap (pr ss c) = pre.filterMap (pr ss c) ++ (pr ss c l).toList := by
    rw [List.filterMap_append]; cases e : pr ss c l <;> simp [e]
  have gl : (pre ++ [l]).getLast? = some l := by simp
  have gs : grp ((pre ++ [l]).map (pr ss c)) = grpS (pre.map (pr ss c)) (grp (pre.map (pr ss c))) (pr ss c l) := by rw [List.map_append, List.map_cons, List.map_nil, grp_snoc]
  cases ef : fnd ss c l with
  | none =>
    have okl : ∀ a, okp ss c a l = true := fun a => by unfold okp; rw [ef]; cases fnd ss c a <;> rfl
    simp
    refine h1 _ ⟨_, _, _, _, runs, true, rfl, ?_, by rw [gs, k0]; simp [pr, ef, grpS], ?_, by simp; omega, fun _ a ha => ?_, fun h => by cases h⟩
    · rw [sound_snoc, k1]; cases pre.getLast? <;> simp [okl]
    · rw [fm, k2]; simp [pr, ef]
    · rw [gl] at ha; cases ha; exact ef
  | some s =>
    obtain ⟨hm, n, el, e1, e2, e3, e4⟩ := fnd_some ef
    have prl : pr ss c l = some (l, s) := by unfold pr; rw [ef]; rfl
    have hd : l.d = .tup [.str n, .int l.i, .int l.j] := by rw [el]; rfl
    simp [Sc.d]
    cases fresh with
    | true =>
      simp
      refine ⟨by omega, ?_⟩
      refine h1 _ ⟨some (.dat l.d), some (.dat s.d), y7, y8, runs ++ [[(l, s)]], false, by simp [Sc.d], ?_, ?g1, ?_, by simp; omega, (fun h => by cases h), fun _ => ⟨runs, [], l, s, by simp, gl, ef⟩⟩
      · rw [sound_snoc, k1]
        cases e : pre.getLast? with
        | none => rfl
        | some a => simp [okp, k3 rfl a e]
      case g1 =>
        rw [gs, k0, prl]
        unfold grpS
        rw [List.getLast?_map]
        cases e : pre.getLast? with
        | none => rfl
        | some a => simp [pr, k3 rfl a e]
      · rw [fm, List.flatten_append, k2, prl]; simp
    | false =>
      obtain ⟨R, r, a, s', rfl, g1, g2⟩ := k4 rfl
      obtain ⟨hm', n', el', e1', e2', e3', e4'⟩ := fnd_some g2
      have hd' : a.d = .tup [.str n', .int a.i, .int a.j] := by rw [el']; rfl
      have hr : r.length ≤ 80 := by
        have : (R ++ [r ++ [(a, s')]]).flatten.length ≤ pre.length := by rw [k2]; exact List.length_filterMap_le _ _
        simp at this; omega
      simp [Sc.d, hd, hd', Sc.at_ok e4', Sc.at_ok e3]
      refine ⟨fun heq => ⟨by omega, ?_⟩, fun hne => h0 ?_⟩
      · refine h1 _ ⟨some (.dat l.d), some (.dat s.d), some (.dat a.d), some (.dat s'.d), R ++ [(r ++ [(a, s')]) ++ [(l, s)]], false, ?_, ?_, ?g2, ?_, by simp at k5 ⊢; omega, (fun h => by cases h), fun _ => ⟨R, r ++ [(a, s')], l, s, rfl, gl, ef⟩⟩
        · simp [Sc.d, hd, hd']
        · rw [sound_snoc, k1, g1]; simp [okp, g2, ef, heq]
        case g2 =>
          rw [gs, prl, ← k0]
          unfold grpS
          rw [List.getLast?_map, g1]
          simp [pr, g2]
        · rw [fm, ← k2, prl]; simp
      · rw [sound_snoc, k1, g1]; simp [okp, g2, ef, hne]
theorem counted_by_okJ {ss : List Sc} {o : List D} {ls : List Lg} {c : Option (List Str)} {μ : List SV} {Q X} (hb : Bk ss) (hl : ls.length ≤ 80) (ho : ∀ l ∈ ls, l.Ok) (hc : Cl c)
    (h0 : sound ss (shut c) ls = false → Q (.dat .non) μ) (h1 : sound ss (shut c) ls = true → Q (.own ((grp (ls.map (pr ss (shut c)))).map runV)) μ) :
    Wf F_counted_by [.dat (bkD ss o), .dat (.tup (ls.map Lg.d)), .dat (clD c)] μ Q X := by
  unfold F_counted_by fb_counted_by
  simp [wf_run]
  refine found_by_ok hb hl ho hc ?_
  simp
  refine forL_ind (fun pre S => CbJ (bkD ss o) (.tup (ls.map Lg.d)) (clD c) ss (shut c) μ pre S ∧ S.μ = μ) ⟨⟨none, none, none, none, [], true, by simp, rfl, rfl, rfl, by simp, by simp, by simp⟩, rfl⟩ (fun pre l post S e hI => ?_) (fun S hI => ?_)
  · obtain ⟨ρ, μ'⟩ := S
    obtain ⟨hI, rfl⟩ := hI
    refine counted_stepJ (by rw [e] at hl; simp at hl; omega) hI (fun hs => ?_) (fun S1 hI1 => ?_)
    · simp
      exact h0 (by rw [e, show pre ++ l :: post = (pre ++ [l]) ++ post by simp]; exact sound_bad hs)
    · refine ⟨hI1, ?_⟩
      obtain ⟨_, _, _, _, _, _, rfl, _⟩ := hI1
      rfl
  · obtain ⟨⟨y5, y6, y7, y8, runs, fresh, rfl, k1, k0, _⟩, _⟩ := hI
    subst k0
    simpa using h1 k1
end FL

namespace FL
open PySem PySem.Spec PyProof.Rows L2 L3
def Lg.n : Lg → Str
  | .ride => "ride"
  | .leg n _ _ => n
/-- the numbers between, and which way -/
def stp (i j : Nat) : List (Nat × Bool) := if i < j then (List.range (j - i)).map fun k => (i + k, true) else (List.range (i - j)).map fun k => (i - 1 - k, false)
abbrev stD (p : Nat × Bool) : D := .tup [.int p.1, .bl p.2]
theorem stp_eq {i j : Nat} : stepsL i j = (stp i j).map stD := by
  unfold stepsL stp
  by_cases h : i < j
  · rw [if_pos (by omega), if_pos h, show ((j : Int) - i).toNat = j - i by omega]
    unfold rangeL
    rw [List.map_map, List.map_map]
    apply List.map_congr_left
    intro k _
    simp
  · rw [if_neg (by omega), if_neg h, show ((i : Int) - 1 - (j - 1)).toNat = i - j by omega]
    unfold rangeL
    rw [List.map_map, List.map_map]
    apply List.map_congr_left
    intro k hk
    rw [List.mem_range] at hk
    simp
    omega
theorem stp_len {i j : Nat} (hi : i ≤ 8) (hj : j ≤ 8) : (stp i j).length ≤ 8 := by unfold stp; split <;> simp <;> omega
theorem steps_ok2 {n : Str} {i j : Nat} {μ : List SV} {Q X} (hi : i ≤ 8) (hj : j ≤ 8) (h : Q (.own ((stp i j).map fun p => .dat (stD p))) μ) : Wf F_steps_of [.dat (.tup [.str n, .int i, .int j])] μ Q X := by
  refine steps_ok (by omega) (by omega) ?_
  rw [stp_eq, List.map_map]
  exact h
/-- a stretch passed -/
abbrev psD (t : Str × Nat × Bool) : D := .tup [.str t.1, .int t.2.1, .bl t.2.2]
def pasL (l : Lg) : List (Str × Nat × Bool) := (stp l.i l.j).map fun q => (l.n, q.1, q.2)
def pas (ss : List Sc) (c : List Str) (ls : List Lg) : List (Str × Nat × Bool) := (prs ss c ls).flatMap fun p => pasL p.1
theorem prs_mem {ss : List Sc} {c : List Str} {ls : List Lg} {p : Lg × Sc} (h : p ∈ prs ss c ls) : p.1 ∈ ls ∧ fnd ss c p.1 = some p.2 := by
  unfold prs at h
  split at h
  · obtain ⟨l, hl, e⟩ := List.mem_filterMap.mp h
    unfold pr at e
    cases ef : fnd ss c l with
    | none => rw [ef] at e; cases e
    | some s => rw [ef] at e; cases e; exact ⟨hl, ef⟩
  · cases h
theorem leg_of {ss : List Sc} {c : List Str} {l : Lg} {s : Sc} (h : fnd ss c l = some s) (ok : l.Ok) : l.d = .tup [.str l.n, .int l.i, .int l.j] ∧ l.i ≤ 8 ∧ l.j ≤ 8 ∧ l.i ≠ l.j ∧ Wd l.n ∧ s.n = l.n := by
  obtain ⟨hm, n, el, e1, e2, e3, e4⟩ := fnd_some h
  cases l with
  | ride => cases h
  | leg n' i j => cases el; exact ⟨rfl, ok.2.1, ok.2.2.1, ok.2.2.2, ok.1, e1⟩
theorem passed_ok {ss : List Sc} {o : List D} {ls : List Lg} {c : Option (List Str)} {μ : List SV} {Q X} (hb : Bk ss) (hl : ls.length ≤ 80) (ho : ∀ l ∈ ls, l.Ok) (hc : Cl c) (h : Q (.own ((pas ss (shut c) ls).map fun t => .dat (psD t))) μ) :
    Wf F_passed [.dat (bkD ss o), .dat (.tup (ls.map Lg.d)), .dat (clD c)] μ Q X := by
  unfold F_passed fb_passed
  simp [wf_run]
  refine pairs_of_ok hb hl ho hc ?_
  simp
  refine forL_ind (fun pre S => ∃ y4 y5, S = ⟨[some (.dat (bkD ss o)), some (.dat (.tup (ls.map Lg.d))), some (.dat (clD c)), some (.own ((pre.flatMap fun p => pasL p.1).map fun t => .dat (psD t))), y4, y5, none, none], μ⟩ ∧ (pre.map fun a => (pasL a.1).length).sum ≤ 8 * pre.length) ⟨none, none, by simp, by simp⟩ (fun pre p post S e hI => ?_) (fun S hI => ?_)
  · obtain ⟨y4, y5, rfl, k1⟩ := hI
    obtain ⟨h1, h2⟩ := prs_mem (p := p) (by rw [e]; simp)
    obtain ⟨e1, e2, e3, e4, e5, _⟩ := leg_of h2 (ho _ h1)
    have lp : pre.length ≤ 80 := by have := prs_len (ss := ss) (c := shut c) (ls := ls); rw [e] at this; simp at this; omega
    have ls1 := stp_len e2 e3
    unfold lb_passed_1
    simp [e1]
    refine steps_ok2 e2 e3 ?_
    simp
    refine ctL_map (fun q => .dat (psD (p.1.n, q.1, q.2))) (by omega) (fun q hq => ?_) ?_
    · simp
    · simp
      have hp : (pasL p.1).length ≤ 8 := by unfold pasL; simpa using ls1
      exact ⟨by omega, by simp [pasL, Function.comp_def], by omega⟩
  · obtain ⟨y4, y5, rfl, k1⟩ := hI
    simp
    exact h
/-! ### sums -/
def add3 (a b : Int × Int × Int) : Int × Int × Int := (a.1 + b.1, a.2.1 + b.2.1, a.2.2 + b.2.2)
def sum3 : List (Int × Int × Int) → Int × Int × Int := List.foldl add3 (0, 0, 0)
theorem sum3_snoc {xs : List (Int × Int × Int)} {x : Int × Int × Int} : sum3 (xs ++ [x]) = add3 (sum3 xs) x := by unfold sum3; rw [List.foldl_append]; rfl
theorem foldl_add3 : ∀ {xs : List (Int × Int × Int)} {a : Int × Int × Int}, xs.foldl add3 a = add3 a (sum3 xs)
  | [], a => by simp [sum3, add3]
  | x :: xs, a => by
    rw [List.foldl_cons, foldl_add3 (xs := xs)]
    conv => rhs; unfold sum3
    rw [List.foldl_cons, foldl_add3 (xs := xs)]
    simp [add3, Int.add_assoc]
theorem sum3_app {xs ys : List (Int × Int × Int)} : sum3 (xs ++ ys) = add3 (sum3 xs) (sum3 ys) := by
  conv => lhs; unfold sum3
  rw [List.foldl_append, foldl_add3]; rfl
theorem sum3_cons {x : Int × Int × Int} {xs : List (Int × Int × Int)} : sum3 (x :: xs) = add3 x (sum3 xs) := by
  rw [show x :: xs = [x] ++ xs from rfl, sum3_app]; simp [sum3, add3]
/-- a stretch, gone -/
def stv (R : List (Int × Int × Int)) (q : Nat × Bool) : Int × Int × Int := match R[q.1]? with
  | none => (0, 0, 0)
  | some t => (len t, upw q.2 t, upw (!q.2) t)
def meas (R : List (Int × Int × Int)) (i j : Nat) : Int × Int × Int := sum3 ((stp i j).map (stv R))
theorem sum3_range (f : Nat → Int × Int × Int) : ∀ n : Nat, sum3 ((List.range n).map f) = (((List.range n).map fun k => (f k).1).sum, ((List.range n).map fun k => (f k).2.1).sum, ((List.range n).map fun k => (f k).2.2).sum)
  | 0 => rfl
  | n + 1 => by
    rw [List.range_succ, List.map_append, List.map_append, List.map_append, List.map_append, List.map_cons, List.map_nil, sum3_snoc, sum3_range f n]
    simp [add3]
theorem stv_len {R : List (Int × Int × Int)} {q : Nat × Bool} : (stv R q).1 = ((R[q.1]?).map len).getD 0 := by unfold stv; cases R[q.1]? <;> rfl
theorem stv_up {R : List (Int × Int × Int)} {q : Nat × Bool} : (stv R q).2.1 = ((R[q.1]?).map (upw q.2)).getD 0 := by unfold stv; cases R[q.1]? <;> rfl
theorem stv_dn {R : List (Int × Int × Int)} {q : Nat × Bool} : (stv R q).2.2 = ((R[q.1]?).map (upw (!q.2))).getD 0 := by unfold stv; cases R[q.1]? <;> rfl
theorem meas_D {R : List (Int × Int × Int)} {i j : Nat} (hm : max i j ≤ R.length) : measD R i j = enc (meas R i j) := by
  unfold measD
  rw [if_neg (by omega), stepsL_len]
  unfold meas stp gone enc
  by_cases h : i < j
  · rw [if_pos h, if_pos (show (i : Int) < j by omega), List.map_map, sum3_range, show ((j : Int) - i).toNat = j - i by omega]
    have hd : decide ((i : Int) < j) = true := by simp; omega
    simp only [Function.comp_def, stv_len, stv_up, stv_dn, hd]
    have g : ∀ f : Int × Int × Int → Int, ((List.range (j - i)).map fun (x : Nat) => ((R[(if (i : Int) < j then (i : Int) + (x : Int) else (i : Int) - 1 - (x : Int)).toNat]?).map f).getD 0).sum = ((List.range (j - i)).map fun k => ((R[i + k]?).map f).getD 0).sum := fun f => by
      congr 1
      apply List.map_congr_left
      intro k _
      rw [if_pos (show (i : Int) < j by omega), show ((i : Int) + (k : Int)).toNat = i + k by omega]
    rw [g, g, g]
  · rw [if_neg h, if_neg (show ¬ (i : Int) < j by omega), List.map_map, sum3_range, show ((i : Int) - j).toNat = i - j by omega]
    have hd : decide ((i : Int) < j) = false := by simp; omega
    simp only [Function.comp_def, stv_len, stv_up, stv_dn, hd]
    have g : ∀ f : Int × Int × Int → Int, ((List.range (i - j)).map fun (x : Nat) => ((R[(if (i : Int) < j then (i : Int) + (x : Int) else (i : Int) - 1 - (x : Int)).toNat]?).map f).getD 0).sum = ((List.range (i - j)).map fun k => ((R[i - 1 - k]?).map f).getD 0).sum := fun f => by
      congr 1
      apply List.map_congr_left
      intro k hk
      rw [List.mem_range] at hk
      rw [if_neg (show ¬ (i : Int) < j by omega), show ((i : Int) - 1 - (k : Int)).toNat = i - 1 - k by omega]
    rw [g, g, g]
/-- bounds -/
def Sm3 (n : Int) (t : Int × Int × Int) : Prop := (0 ≤ t.1 ∧ t.1 ≤ n) ∧ (0 ≤ t.2.1 ∧ t.2.1 ≤ n) ∧ (0 ≤ t.2.2 ∧ t.2.2 ≤ n)
theorem sum3_sm {n : Int} (hn : 0 ≤ n) : ∀ {xs : List (Int × Int × Int)}, (∀ x ∈ xs, Sm3 n x) → Sm3 (n * xs.length) (sum3 xs)
  | [], _ => by simp [Sm3, sum3]
  | x :: xs, h => by
    have ih := sum3_sm hn (xs := xs) fun y hy => h y (by simp [hy])
    have hx := h x (by simp)
    rw [sum3_cons, show ((x :: xs).length : Int) = xs.length + 1 by simp, Int.mul_add, Int.mul_one]
    unfold Sm3 at *
    simp only [add3]
    omega
theorem stv_sm {R : List (Int × Int × Int)} (h : ∀ t ∈ R, RowOk t) {q : Nat × Bool} : Sm3 1000 (stv R q) := by
  unfold stv
  cases e : R[q.1]? with
  | none => simp [Sm3]
  | some t =>
    have ok := h t (List.mem_of_getElem? e)
    exact ⟨ok.1, upw_ok ok, upw_ok ok⟩
theorem meas_sm3 {R : List (Int × Int × Int)} (h : ∀ t ∈ R, RowOk t) {i j : Nat} (hi : i ≤ 8) (hj : j ≤ 8) : Sm3 8000 (meas R i j) := by
  have := sum3_sm (n := 1000) (by omega) (xs := (stp i j).map (stv R)) (fun x hx => by
    obtain ⟨q, _, rfl⟩ := List.mem_map.mp hx
    exact stv_sm h)
  have hl := stp_len hi hj
  rw [List.length_map] at this
  unfold meas
  unfold Sm3 at *
  omega
/-- what a leg measures -/
def mz (p : Lg × Sc) : Int × Int × Int := meas p.2.rw p.1.i p.1.j
theorem measure_ok2 {l : Lg} {s : Sc} {ss : List Sc} {c : List Str} {μ : List SV} {Q X} (ok : s.Ok) (hf : fnd ss c l = some s) (ho : l.Ok) (h : Q (.dat (enc (mz (l, s)))) μ) : Wf F_measure [.dat s.d, .dat l.d] μ Q X := by
  obtain ⟨e1, e2, e3, e4, e5, _⟩ := leg_of hf ho
  obtain ⟨hm, n, el, w1, w2, w3, w4⟩ := fnd_some hf
  have hl := ok.len
  rw [e1]
  refine measure_ok (n := s.n) (n' := l.n) (ms := s.ms.map D.str) (R := s.rw) (by simpa using hl) (by omega) (by omega) ?_
  rw [meas_D (by omega)]
  exact h
def sms (ss : List Sc) (c : List Str) (ls : List Lg) : Int × Int × Int := sum3 ((prs ss c ls).map mz)
theorem sums_of_ok {ss : List Sc} {o : List D} {ls : List Lg} {c : Option (List Str)} {μ : List SV} {Q X} (hb : Bk ss) (hl : ls.length ≤ 80) (ho : ∀ l ∈ ls, l.Ok) (hc : Cl c) (h : Q (.dat (enc (sms ss (shut c) ls))) μ) :
    Wf F_sums_of [.dat (bkD ss o), .dat (.tup (ls.map Lg.d)), .dat (clD c)] μ Q X := by
  unfold F_sums_of fb_sums_of
  simp [wf_run]
  refine pairs_of_ok hb hl ho hc ?_
  simp
  refine forL_ind (fun pre S => ∃ y6 y7 y8 y9 y10, S = ⟨[some (.dat (bkD ss o)), some (.dat (.tup (ls.map Lg.d))), some (.dat (clD c)), some (.dat (.int (sum3 (pre.map mz)).1)), some (.dat (.int (sum3 (pre.map mz)).2.1)), some (.dat (.int (sum3 (pre.map mz)).2.2)), y6, y7, y8, y9, y10], μ⟩) ⟨none, none, none, none, none, by simp [sum3]⟩ (fun pre p post S e hI => ?_) (fun S hI => ?_)
  · obtain ⟨y6, y7, y8, y9, y10, rfl⟩ := hI
    obtain ⟨h1, h2⟩ := prs_mem (p := p) (by rw [e]; simp)
    unfold lb_sums_of_1
    simp
    refine measure_ok2 (hb.ok _ (fnd_some h2).1) h2 (ho _ h1) ?_
    simp [enc]
    rw [sum3_snoc]
    exact ⟨rfl, rfl, rfl⟩
  · obtain ⟨y6, y7, y8, y9, y10, rfl⟩ := hI
    simp
    exact h
end FL

namespace FL
open PySem PySem.Spec PyProof.Rows L2 L3
@[simp] theorem s_range31 {i j : Int} : range3 [.int i, .int j, .int 1] = if small62 i ∧ small62 j then some (rangeL i (j - i).toNat 1) else none := by
  show (if small62 i ∧ small62 j ∧ ((1 : Int) = -1 ∨ (1 : Int) = 1 ∨ (1 : Int) = 2) then some (rangeL i (steps3 i j 1) 1) else none) = _
  simp [steps3]
/-- the marks gone to by a leg -/
def ways (s : Sc) (i j : Nat) : List Str := if i < j then (List.range (j - i)).map fun k => s.mrk (i + k + 1) else (List.range (i - j)).map fun k => s.mrk (i - k - 1)
def trail : List (Lg × Sc) → List Str
  | [] => []
  | p :: r => p.2.mrk p.1.i :: (p :: r).flatMap fun p => ways p.2 p.1.i p.1.j
def trs (ss : List Sc) (c : List Str) (ls : List Lg) : List (List Str) := if sound ss c ls then (grp (ls.map (pr ss c))).map trail else []
theorem ways_len {s : Sc} {i j : Nat} (hi : i ≤ 8) (hj : j ≤ 8) : (ways s i j).length ≤ 8 := by unfold ways; split <;> simp <;> omega
theorem grp_in {ss : List Sc} {c : List Str} {ls : List Lg} {g : List (Lg × Sc)} (h : g ∈ grp (ls.map (pr ss c))) : g.length ≤ ls.length ∧ ∀ p ∈ g, p.1 ∈ ls ∧ fnd ss c p.1 = some p.2 := by
  have hf := grp_flat (xs := ls.map (pr ss c))
  have hs : g.Sublist (grp (ls.map (pr ss c))).flatten := List.sublist_flatten_of_mem h
  rw [hf, List.filterMap_map] at hs
  refine ⟨Nat.le_trans hs.length_le (List.length_filterMap_le _ _), fun p hp => ?_⟩
  obtain ⟨l, hl, e⟩ := List.mem_filterMap.mp (hs.subset hp)
  have e : pr ss c l = some p := e
  unfold pr at e
  cases ef : fnd ss c l with
  | none => rw [ef] at e; cases e
  | some s => rw [ef] at e; cases e; exact ⟨hl, ef⟩
theorem grp_few {ss : List Sc} {c : List Str} {ls : List Lg} : (grp (ls.map (pr ss c))).length ≤ ls.length := by
  have hf := grp_flat (xs := ls.map (pr ss c))
  have h1 : ∀ (G : List (List (Lg × Sc))), (∀ g ∈ G, g ≠ []) → G.length ≤ G.flatten.length := by
    intro G
    induction G with
    | nil => simp
    | cons g G ih =>
      intro h
      have := List.length_pos_iff.mpr (h g (by simp))
      have := ih fun g hg => h g (by simp [hg])
      simp at this ⊢; omega
  have := h1 (grp (ls.map (pr ss c))) fun g hg => grp_mem_ne hg
  rw [hf, List.filterMap_map] at this
  exact Nat.le_trans this (List.length_filterMap_le _ _)
theorem trails_ok {ss : List Sc} {o : List D} {ls : List Lg} {c : Option (List Str)} {μ : List SV} {Q X} (hb : Bk ss) (hl : ls.length ≤ 20) (ho : ∀ l ∈ ls, l.Ok) (hc : Cl c) (h : Q (.own ((trs ss (shut c) ls).map fun t => .own (sL t))) μ) :
    Wf F_trails [.dat (bkD ss o), .dat (.tup (ls.map Lg.d)), .dat (clD c)] μ Q X := by
  unfold F_trails fb_trails
  simp [wf_run]
  have go : ∀ runs : List (List (Lg × Sc)), runs.map trail = trs ss (shut c) ls → (∀ g ∈ runs, g ≠ [] ∧ g ∈ grp (ls.map (pr ss (shut c)))) → runs.length ≤ 20 → Ws (forF (.nm 4) lb_trails_2 (runs.map fun r => .lst (r.map pD))) ⟨[some (.dat (bkD ss o)), some (.dat (.tup (ls.map Lg.d))), some (.dat (clD c)), some (.own []), none, none, none, none, none, none], μ⟩ (sq (fRet (fVar 3)) (retP Q X)) := fun runs hr hg hrl => by
    refine forL_ind (fun pre S => ∃ y4 y5 y6 y7 y8, S = ⟨[some (.dat (bkD ss o)), some (.dat (.tup (ls.map Lg.d))), some (.dat (clD c)), some (.own ((pre.map trail).map fun t => .own (sL t))), y4, y5, y6, y7, y8, none], μ⟩) ⟨none, none, none, none, none, by simp⟩ (fun pre r post S e hI => ?_) (fun S hI => ?_)
    · obtain ⟨y4, y5, y6, y7, y8, rfl⟩ := hI
      obtain ⟨hne, hgr⟩ := hg r (by rw [e]; simp)
      obtain ⟨g1, g2⟩ := grp_in hgr
      have hpl : pre.length ≤ 20 := by rw [e] at hrl; simp at hrl; omega
      obtain ⟨p, r', rfl⟩ := List.exists_cons_of_ne_nil hne
      obtain ⟨m1, m2⟩ := g2 p (by simp)
      obtain ⟨e1, e2, e3, e4, e5, _⟩ := leg_of m2 (ho _ m1)
      obtain ⟨hm, n, el, w1, w2, w3, w4⟩ := fnd_some m2
      unfold lb_trails_2
      simp [e1, Sc.d, Sc.at_ok w3]
      rw [show pD p :: r'.map pD = (p :: r').map pD from rfl]
      generalize hrr : p :: r' = rr at *
      refine forL_ind (fun pre2 S => ∃ y6 y7 y8, S = ⟨[some (.dat (bkD ss o)), some (.dat (.tup (ls.map Lg.d))), some (.dat (clD c)), some (.own ((pre.map trail).map fun t => .own (sL t))), some (.dat (.lst (rr.map pD))), some (.own (sL (p.2.mrk p.1.i :: pre2.flatMap fun p => ways p.2 p.1.i p.1.j))), y6, y7, y8, none], μ⟩ ∧ (pre2.flatMap fun p => ways p.2 p.1.i p.1.j).length ≤ 8 * pre2.length) ⟨y6, y7, y8, by simp [Function.comp_def], by simp⟩ (fun pre2 q post2 S e2 hI => ?_) (fun S hI => ?_)
      · obtain ⟨y6, y7, y8, rfl, hlen⟩ := hI
        obtain ⟨m1, m2⟩ := g2 q (by rw [e2]; simp)
        obtain ⟨e1, i8, j8, hij, e5, _⟩ := leg_of m2 (ho _ m1)
        obtain ⟨hm, n, el, w1, w2, w3, w4⟩ := fnd_some m2
        have wl := ways_len (s := q.2) i8 j8
        have hp2 : pre2.length ≤ 20 := by rw [e2] at g1; simp at g1; omega
        unfold lb_trails_1
        simp [e1, Sc.d]
        refine ⟨fun hlt => ⟨⟨small62_of (by omega) (by omega), small62_of (by omega) (by omega)⟩, ?_⟩, fun hge => ⟨⟨small62_of (by omega) (by omega), small62_of (by omega) (by omega)⟩, ?_⟩⟩
        · have wd : ways q.2 q.1.i q.1.j = (List.range (q.1.j - q.1.i)).map fun k => q.2.mrk (q.1.i + k + 1) := by unfold ways; rw [if_pos hlt]
          unfold rangeL
          refine ctL_map (fun k => .dat (.str (q.2.mrk (q.1.i + k + 1)))) (by simp; omega) (fun k hk => ?_) ?_
          · rw [List.mem_range] at hk
            have := Sc.at_ok (s := q.2) (k := q.1.i + k + 1) (by omega)
            simp at this
            simp [this]
          · simp
            simp only [List.length_flatMap] at hlen
            exact ⟨by omega, by rw [wd, List.map_map]; rfl, by omega⟩
        · have wd : ways q.2 q.1.i q.1.j = (List.range (q.1.i - q.1.j)).map fun k => q.2.mrk (q.1.i - k - 1) := by unfold ways; rw [if_neg (by omega)]
          unfold rangeL
          refine ctL_map (fun k => .dat (.str (q.2.mrk (q.1.i - k - 1)))) (by simp; omega) (fun k hk => ?_) ?_
          · rw [List.mem_range] at hk
            have := Sc.at_ok (s := q.2) (k := q.1.i - k - 1) (by omega)
            rw [show ((q.1.i - k - 1 : Nat) : Int) = (q.1.i : Int) + -(k : Int) + -1 by omega] at this
            simp [this]
          · simp
            simp only [List.length_flatMap] at hlen
            exact ⟨by omega, by rw [wd, List.map_map]; rfl, by omega⟩
      · obtain ⟨y6, y7, y8, rfl, hlen⟩ := hI
        have et : (p.2.mrk p.1.i :: rr.flatMap fun p => ways p.2 p.1.i p.1.j) = trail rr := by rw [← hrr]; rfl
        rw [et]
        simp
        omega
    · obtain ⟨y4, y5, y6, y7, y8, rfl⟩ := hI
      rw [hr]
      simp
      exact h
  refine counted_by_okJ hb (Nat.le_trans hl (by decide)) ho hc (fun e => ?_) (fun e => ?_)
  · have := go [] (by unfold trs; simp [e]) (by simp) (by simp)
    simp at this ⊢
    exact this
  · have := go _ (by unfold trs; simp [e]) (fun g hg => ⟨grp_mem_ne hg, hg⟩) (Nat.le_trans grp_few hl)
    simp [peeks_runs]
    cases er : grp (ls.map (pr ss (shut c))) with
    | nil => rw [er] at this; simp at this ⊢; exact this
    | cons r rs => rw [er] at this; simp [peeks_runs] at this ⊢; exact this
end FL

namespace FL
open PySem PySem.Spec PyProof.Rows L2 L3
/-! ### turned about -/
def Lg.turn : Lg → Lg
  | .ride => .ride
  | .leg n i j => .leg n j i
def turnL (ls : List Lg) : List Lg := ls.reverse.map Lg.turn
theorem turn_ok {l : Lg} (h : l.Ok) : l.turn.Ok := by
  cases l with
  | ride => exact h
  | leg n i j => exact ⟨h.1, h.2.2.1, h.2.1, fun e => h.2.2.2 e.symm⟩
theorem turn_fnd {ss : List Sc} {c : List Str} {l : Lg} : fnd ss c l.turn = fnd ss c l := by
  cases l with
  | ride => rfl
  | leg n i j => show ss.find? _ = ss.find? _; simp only [Nat.max_comm]
theorem turn_i {l : Lg} : l.turn.i = l.j := by cases l <;> rfl
theorem turn_j {l : Lg} : l.turn.j = l.i := by cases l <;> rfl
theorem turn_n {l : Lg} : l.turn.n = l.n := by cases l <;> rfl
theorem okp_turn {ss : List Sc} {c : List Str} {a b : Lg} : okp ss c b.turn a.turn = okp ss c a b := by
  unfold okp
  rw [turn_fnd, turn_fnd]
  cases fnd ss c a <;> cases fnd ss c b <;> simp [turn_i, turn_j]
  exact ⟨Eq.symm, Eq.symm⟩
theorem sound_turn {ss : List Sc} {c : List Str} : ∀ {ls : List Lg}, sound ss c (turnL ls) = sound ss c ls
  | [] => rfl
  | [a] => rfl
  | a :: b :: r => by
    have ih := sound_turn (ss := ss) (c := c) (ls := b :: r)
    show sound ss c ((a :: b :: r).reverse.map Lg.turn) = (okp ss c a b && sound ss c (b :: r))
    rw [List.reverse_cons, List.map_append, List.map_cons, List.map_nil, sound_snoc]
    have e : ((b :: r).reverse.map Lg.turn).getLast? = some b.turn := by simp
    rw [e]
    have : sound ss c ((b :: r).reverse.map Lg.turn) = sound ss c (b :: r) := ih
    rw [this]
    show (_ && okp ss c b.turn a.turn) = _
    rw [okp_turn, Bool.and_comm]
def turnP (p : Lg × Sc) : Lg × Sc := (p.1.turn, p.2)
theorem pr_turn {ss : List Sc} {c : List Str} {l : Lg} : pr ss c l.turn = (pr ss c l).map turnP := by
  unfold pr; rw [turn_fnd]; cases fnd ss c l <;> rfl
theorem runs_turn {ss : List Sc} {c : List Str} {ls : List Lg} : grp ((turnL ls).map (pr ss c)) = ((grp (ls.map (pr ss c))).map fun g => (g.map turnP).reverse).reverse := by
  have e : (turnL ls).map (pr ss c) = ((ls.map (pr ss c)).map (Option.map turnP)).reverse := by
    unfold turnL
    simp only [← List.map_reverse, List.map_map]
    apply List.map_congr_left
    intro l _
    exact pr_turn
  rw [e, grp_rev, grp_map, List.map_map]; rfl
theorem prs_turn {ss : List Sc} {c : List Str} {ls : List Lg} : prs ss c (turnL ls) = ((prs ss c ls).map turnP).reverse := by
  unfold prs
  rw [sound_turn]
  split
  · unfold turnL
    rw [List.filterMap_map, List.filterMap_reverse, ← List.map_reverse]
    rw [← List.filterMap_reverse, ← List.filterMap_reverse, List.map_filterMap]
    congr 1
    funext l
    exact pr_turn
  · rfl
theorem stp_turn {i j : Nat} (h : i ≠ j) : stp j i = ((stp i j).map fun q => (q.1, !q.2)).reverse := by
  unfold stp
  rcases Nat.lt_or_gt_of_ne h with h | h
  · rw [if_neg (by omega), if_pos h]
    apply List.ext_getElem (by simp)
    intro k h1 h2
    simp at h1
    simp
    omega
  · rw [if_pos h, if_neg (by omega)]
    apply List.ext_getElem (by simp)
    intro k h1 h2
    simp at h1
    simp
    omega
def flip3 (t : Str × Nat × Bool) : Str × Nat × Bool := (t.1, t.2.1, !t.2.2)
theorem pasL_turn {l : Lg} (h : l.i ≠ l.j) : pasL l.turn = ((pasL l).map flip3).reverse := by
  unfold pasL
  rw [turn_i, turn_j, turn_n, stp_turn h, List.map_reverse, List.map_map, List.map_map]; rfl
theorem pas_turn {ss : List Sc} {c : List Str} {ls : List Lg} (ho : ∀ l ∈ ls, l.Ok) : pas ss c (turnL ls) = ((pas ss c ls).map flip3).reverse := by
  have key : ∀ (ps : List (Lg × Sc)), (∀ p ∈ ps, p.1.i ≠ p.1.j) → ((ps.map turnP).reverse.flatMap fun p => pasL p.1) = ((ps.flatMap fun p => pasL p.1).map flip3).reverse := by
    intro ps
    induction ps with
    | nil => intro _; rfl
    | cons p ps ih =>
      intro h
      have e1 : (p :: ps).flatMap (fun p => pasL p.1) = pasL p.1 ++ ps.flatMap fun p => pasL p.1 := List.flatMap_cons
      rw [List.map_cons, List.reverse_cons, List.flatMap_append, ih fun q hq => h q (by simp [hq]), e1, List.map_append, List.reverse_append]
      congr 1
      simp [turnP, pasL_turn (h p (by simp))]
  unfold pas
  rw [prs_turn]
  exact key _ fun p hp => by
    obtain ⟨h1, h2⟩ := prs_mem hp
    exact (leg_of h2 (ho _ h1)).2.2.2.1
end FL

namespace FL
open PySem PySem.Spec PyProof.Rows L2 L3
def swap3 (t : Int × Int × Int) : Int × Int × Int := (t.1, t.2.2, t.2.1)
theorem sum3_swap : ∀ {xs : List (Int × Int × Int)}, sum3 (xs.map swap3) = swap3 (sum3 xs)
  | [] => rfl
  | x :: xs => by rw [List.map_cons, sum3_cons, sum3_cons, sum3_swap]; rfl
theorem sum3_rev : ∀ {xs : List (Int × Int × Int)}, sum3 xs.reverse = sum3 xs
  | [] => rfl
  | x :: xs => by
    rw [List.reverse_cons, sum3_snoc, sum3_rev, sum3_cons]
    unfold add3
    simp [Int.add_comm]
theorem stv_not {R : List (Int × Int × Int)} {q : Nat × Bool} : stv R (q.1, !q.2) = swap3 (stv R q) := by
  unfold stv
  cases R[q.1]? <;> simp [swap3]
theorem meas_turn {R : List (Int × Int × Int)} {i j : Nat} (h : i ≠ j) : meas R j i = swap3 (meas R i j) := by
  unfold meas
  rw [stp_turn h, List.map_reverse, sum3_rev, List.map_map, ← sum3_swap, List.map_map]
  congr 1
  apply List.map_congr_left
  intro q _
  exact stv_not
theorem sms_turn {ss : List Sc} {c : List Str} {ls : List Lg} (ho : ∀ l ∈ ls, l.Ok) : sms ss c (turnL ls) = swap3 (sms ss c ls) := by
  unfold sms
  rw [prs_turn, List.map_reverse, sum3_rev, List.map_map, ← sum3_swap, List.map_map]
  congr 1
  apply List.map_congr_left
  intro p hp
  obtain ⟨h1, h2⟩ := prs_mem hp
  have hij := (leg_of h2 (ho _ h1)).2.2.2.1
  show meas p.2.rw p.1.turn.i p.1.turn.j = swap3 (meas p.2.rw p.1.i p.1.j)
  rw [turn_i, turn_j]
  exact meas_turn hij
/-! ### a run's marks -/
def chn : List (Lg × Sc) → Prop
  | p :: q :: r => p.2.mrk p.1.j = q.2.mrk q.1.i ∧ chn (q :: r)
  | _ => True
theorem grp_head {α : Type} {b : α} {r : List (Option α)} : ∃ g gs, grp (some b :: r) = (b :: g) :: gs := by
  rw [grp_cons]
  cases r.head? with
  | none => exact ⟨_, _, rfl⟩
  | some z => cases z <;> exact ⟨_, _, rfl⟩
theorem sound_chn {ss : List Sc} {c : List Str} : ∀ {ls : List Lg}, sound ss c ls = true → ∀ g ∈ grp (ls.map (pr ss c)), chn g
  | [], _, g, hg => by simp [grp] at hg
  | [l], _, g, hg => by
    rw [List.map_cons, List.map_nil] at hg
    cases e : pr ss c l with
    | none => rw [e] at hg; simp [grp] at hg
    | some p => rw [e] at hg; simp [grp] at hg; rw [hg]; trivial
  | l :: l2 :: r, hs, g, hg => by
    have hs : (okp ss c l l2 && sound ss c (l2 :: r)) = true := hs
    rw [Bool.and_eq_true] at hs
    have ih := sound_chn hs.2
    rw [List.map_cons] at hg ih
    cases e : pr ss c l with
    | none => rw [List.map_cons, e, grp_n] at hg; exact ih g hg
    | some p =>
      rw [List.map_cons, e] at hg
      cases e2 : pr ss c l2 with
      | none =>
        rw [e2, grp_cn] at hg
        rw [e2, grp_n] at ih
        rcases List.mem_cons.mp hg with rfl | hg
        · trivial
        · exact ih g hg
      | some q =>
        rw [e2] at hg ih
        obtain ⟨g1, gs, hgs⟩ := grp_head (b := q) (r := r.map (pr ss c))
        rw [grp_cc hgs] at hg
        rw [hgs] at ih
        rcases List.mem_cons.mp hg with rfl | hg
        · refine ⟨?_, ih _ (by simp)⟩
          have hok := hs.1
          unfold pr at e e2
          unfold okp at hok
          cases f1 : fnd ss c l with
          | none => rw [f1] at e; cases e
          | some s =>
            cases f2 : fnd ss c l2 with
            | none => rw [f2] at e2; cases e2
            | some t =>
              rw [f1] at e; rw [f2] at e2
              cases e; cases e2
              rw [f1, f2] at hok
              simpa using hok
        · exact ih g (by simp [hg])
theorem ways_turn {s : Sc} {i j : Nat} (h : i ≠ j) : (s.mrk i :: ways s i j).reverse = s.mrk j :: ways s j i := by
  rcases Nat.lt_or_gt_of_ne h with h | h
  · unfold ways
    rw [if_pos h, if_neg (by omega)]
    apply List.ext_getElem (by simp)
    intro k h1 h2
    simp at h1
    rw [List.getElem_reverse]
    cases k with
    | zero =>
      obtain ⟨d, hd⟩ : ∃ d, j - i = d + 1 := ⟨j - i - 1, by omega⟩
      simp [hd]
      congr 1; omega
    | succ k =>
      simp
      rw [List.getElem_cons]
      split
      · congr 1; omega
      · simp; congr 1; omega
  · unfold ways
    rw [if_neg (by omega), if_pos h]
    apply List.ext_getElem (by simp)
    intro k h1 h2
    simp at h1
    rw [List.getElem_reverse]
    cases k with
    | zero =>
      obtain ⟨d, hd⟩ : ∃ d, i - j = d + 1 := ⟨i - j - 1, by omega⟩
      simp [hd]
      congr 1; omega
    | succ k =>
      simp
      rw [List.getElem_cons]
      split
      · congr 1; omega
      · simp; congr 1; omega
theorem trail_cons {p : Lg × Sc} {r : List (Lg × Sc)} : trail (p :: r) = (p.2.mrk p.1.i :: ways p.2 p.1.i p.1.j) ++ (trail r).tail := by
  cases r with
  | nil => simp [trail]
  | cons q r => simp [trail]
theorem trail_snoc {p : Lg × Sc} {r : List (Lg × Sc)} (h : r ≠ []) : trail (r ++ [p]) = trail r ++ ways p.2 p.1.i p.1.j := by
  cases r with
  | nil => exact absurd rfl h
  | cons q r => simp [trail]
theorem trail_turn : ∀ {g : List (Lg × Sc)}, (∀ p ∈ g, p.1.i ≠ p.1.j) → chn g → trail (g.map turnP).reverse = (trail g).reverse
  | [], _, _ => rfl
  | [p], h, _ => by
    have := ways_turn (s := p.2) (h p (by simp))
    show trail [turnP p] = (trail [p]).reverse
    have e1 : trail [turnP p] = p.2.mrk p.1.turn.i :: ways p.2 p.1.turn.i p.1.turn.j := by simp [trail, turnP]
    have e2 : trail [p] = p.2.mrk p.1.i :: ways p.2 p.1.i p.1.j := by simp [trail]
    rw [e1, e2, turn_i, turn_j, this]
  | p :: q :: r, h, hc => by
    have ih := trail_turn (g := q :: r) (fun x hx => h x (by simp [hx])) hc.2
    rw [List.map_cons, List.reverse_cons, trail_snoc (by simp), ih, trail_cons (p := p), List.reverse_append, ways_turn (h p (by simp))]
    have e1 : trail (q :: r) = q.2.mrk q.1.i :: (trail (q :: r)).tail := by simp [trail]
    have e2 : (trail (q :: r)).reverse = (trail (q :: r)).tail.reverse ++ [q.2.mrk q.1.i] := by rw [← List.reverse_cons, ← e1]
    rw [e2]
    show _ ++ ways p.2 p.1.turn.i p.1.turn.j = _
    rw [turn_i, turn_j, ← hc.1]
    simp
theorem trs_turn {ss : List Sc} {c : List Str} {ls : List Lg} (ho : ∀ l ∈ ls, l.Ok) : trs ss c (turnL ls) = ((trs ss c ls).map List.reverse).reverse := by
  unfold trs
  rw [sound_turn]
  cases hs : sound ss c ls with
  | false => rfl
  | true =>
    simp only [if_true]
    rw [runs_turn, List.map_reverse, List.map_map, List.map_map]
    congr 1
    apply List.map_congr_left
    intro g hg
    exact trail_turn (fun p hp => by
      obtain ⟨h1, h2⟩ := (grp_in hg).2 p hp
      exact (leg_of h2 (ho _ h1)).2.2.2.1) (sound_chn hs g hg)
end FL

namespace L3
open PySem PySem.Spec PyProof.Rows L2
@[simp] theorem wb_revd {S : Sto} {fe : FE} {QI : List D → Sto → Prop} {X : Ex → Sto → Prop} : Wb (fRevd fe) S QI X = Wb fe S (fun r S1 => Gb (r.esc S1) fun d S2 => Ob (seqD d) fun ds => QI ds.reverse S2) X := by
  unfold fRevd; rw [wb_bind]; refine wb_ext fun r S1 => ?_
  unfold Wb
  cases e : r.esc S1 with
  | none => simp [e]
  | some z =>
    obtain ⟨d, S2⟩ := z
    cases e2 : seqD d <;> simp [e, e2]
@[simp] theorem s_insAt0 {i : Nat} {p : List Nat} {x : SV} {ρ : List (Option SV)} {μ : List SV} : insAt0 (.bor i p) x ⟨ρ, μ⟩ = (ρ[i]?).bind fun o => o.bind fun y => (y.sub p).bind fun z => match z with
    | .node .lst xs => if xs.length < 1000000 then some (⟨ρ.set i (some (y.putp p (.own (x :: xs)))), μ⟩ : Sto) else none
    | _ => none := by
  unfold insAt0
  dsimp only
  rw [s_sub]
  cases e : ρ[i]? with
  | none => rfl
  | some o =>
    cases o with
    | none => rfl
    | some y =>
      simp only [Option.bind_some]
      cases e2 : y.sub p with
      | none => rfl
      | some z =>
        cases z with
        | node n xs => cases n <;> simp [Sto.putp, e]
        | _ => rfl
@[simp] theorem ws_insert0 {S : Sto} {fo fe : FE} {P : SO → Prop} : Ws (fInsert0 fo fe) S P = Wb fo S (fun ro S1 => Ob (ro.sv S1) fun x => match x with
    | .node .lst _ => Wb fe S1 (fun re S2 => Gb (re.kid S2) fun x S3 => Ob (insAt0 ro x S3) fun S4 => P (.nx S4)) (fun e S1 => P (.exc e S1))
    | _ => False) (fun e S1 => P (.exc e S1)) := by
  unfold fInsert0; rw [ws_bind]; refine wb_ext fun ro S1 => ?_
  cases ex : ro.sv S1 with
  | none => unfold Ws; simp [ex]
  | some x =>
    cases x with
    | dat d => unfold Ws; simp [ex]
    | cell c => unfold Ws; simp [ex]
    | node n xs =>
      cases n with
      | lst =>
        simp only [ob_some]
        have e : Ws (fun S1 => match ro.sv S1 with
          | some (.node .lst _) => bindS fe (fun re S2 => match re.kid S2 with
            | some (x, S3) => (insAt0 ro x S3).map SO.nx
            | none => none) S1
          | _ => none) S1 P = Ws (bindS fe (fun re S2 => match re.kid S2 with
            | some (x, S3) => (insAt0 ro x S3).map SO.nx
            | none => none)) S1 P := by unfold Ws; simp [ex]
        refine e.trans ?_; rw [ws_bind]; refine wb_ext fun re S2 => ?_; unfold Ws
        cases ek : re.kid S2 with
        | none => simp [ek]
        | some z => obtain ⟨x, S3⟩ := z; cases e2 : insAt0 ro x S3 <;> simp [ek, e2]
      | _ => unfold Ws; simp [ex]
end L3
namespace FL
open PySem PySem.Spec PyProof.Rows L2 L3
theorem turned_ok {ls : List Lg} {μ : List SV} {Q X} (hl : ls.length ≤ 80) (ho : ∀ l ∈ ls, l.Ok) (h : Q (.dat (.tup ((turnL ls).map Lg.d))) μ) : Wf F_turned [.dat (.tup (ls.map Lg.d))] μ Q X := by
  unfold F_turned fb_turned
  simp [wf_run]
  rw [← List.map_reverse]
  refine ctL_map (fun l => .dat l.turn.d) (by simp; omega) (fun l hl' => ?_) ?_
  · have eq1 := lg_ride (ho l (by simpa using hl'))
    cases l with
    | ride => simp [Lg.isR, Lg.d] at eq1; simp [eq1, Lg.d, Lg.turn]
    | leg n i j => simp [Lg.isR, Lg.d] at eq1; simp [eq1, Lg.d, Lg.turn]
  · have e : (ls.reverse.map fun l => SV.dat l.turn.d) = ((turnL ls).map Lg.d).map SV.dat := by unfold turnL; rw [List.map_map, List.map_map]; rfl
    rw [e]
    generalize (turnL ls).map Lg.d = tl at h
    simp
    exact h
/-! ### the law's runs -/
def prl (ss : List Sc) (c : List Str) (l : Lg) : Option Lg := (fnd ss c l).map fun _ => l
theorem prl_pr {ss : List Sc} {c : List Str} {l : Lg} : prl ss c l = (pr ss c l).map Prod.fst := by unfold prl pr; cases fnd ss c l <;> rfl
def rns (ss : List Sc) (c : List Str) (ls : List Lg) : List (List Lg) := if sound ss c ls then grp (ls.map (prl ss c)) else []
theorem rns_eq {ss : List Sc} {c : List Str} {ls : List Lg} : grp (ls.map (prl ss c)) = (grp (ls.map (pr ss c))).map (List.map Prod.fst) := by
  rw [← grp_map, List.map_map]
  congr 1
  apply List.map_congr_left
  intro l _
  exact prl_pr
theorem grp_last {α : Type} {z : α} : ∀ {l : List (Option α)}, l.getLast? = some (some z) → ∃ R g, grp l = R ++ [g]
  | [], h => by simp at h
  | y :: l, h => by
    have hne : grp (y :: l) ≠ [] := by
      cases y with
      | some y => exact grp_ne
      | none =>
        cases l with
        | nil => simp at h
        | cons w l =>
          rw [List.getLast?_cons_cons] at h
          obtain ⟨R, g, e⟩ := grp_last h
          rw [grp_n, e]; simp
    exact ⟨_, _, (List.dropLast_concat_getLast hne).symm⟩
theorem runs_ok {ss : List Sc} {o : List D} {ls : List Lg} {c : List Str} {μ : List SV} {Q X} (hb : Bk ss) (hl : ls.length ≤ 20) (ho : ∀ l ∈ ls, l.Ok) (hc : Cl (some c)) (h : Q (.own ((rns ss c ls).map lV)) μ) :
    Wf F__law_runs [.dat (bkD ss o), .dat (.tup (ls.map Lg.d)), .dat (tS c)] μ Q X := by
  unfold F__law_runs fb__law_runs
  simp [wf_run]
  refine forL_ind (fun pre S => ∃ y5 y6, S = ⟨[some (.dat (bkD ss o)), some (.dat (.tup (ls.map Lg.d))), some (.dat (tS c)), some (.own ((grp (pre.map (prl ss c))).map lV)), some (.dat (.bl (match pre.getLast? with
      | some a => (fnd ss c a).isSome
      | none => false))), y5, y6], μ⟩) ⟨none, none, by simp [grp]⟩ (fun pre l post S e hI => ?_) (fun S hI => ?_)
  · obtain ⟨y5, y6, rfl⟩ := hI
    have hll : l ∈ ls := by rw [e]; simp
    have hpl : pre.length ≤ 20 := by rw [e] at hl; simp at hl; omega
    have gs : grp ((pre ++ [l]).map (prl ss c)) = grpS (pre.map (prl ss c)) (grp (pre.map (prl ss c))) (prl ss c l) := by rw [List.map_append, List.map_cons, List.map_nil, grp_snoc]
    have few : (grp (pre.map (prl ss c))).length ≤ 20 := by rw [rns_eq, List.length_map]; exact Nat.le_trans grp_few hpl
    have gl : (pre ++ [l]).getLast? = some l := by simp
    unfold lb__law_runs_1
    simp
    refine marks_of_ok hb (ho l hll) hc ?_
    simp [mks_eq hb]
    rw [gs]
    cases ef : fnd ss c l with
    | none =>
      simp [prl, ef, grpS]
    | some s =>
      cases eg : pre.getLast? with
      | none =>
        simp [prl, ef, grpS, eg]
        omega
      | some a =>
        cases ea : fnd ss c a with
        | none =>
          simp [prl, ef, grpS, eg, ea]
          omega
        | some t =>
          obtain ⟨R, g, hg⟩ := grp_last (l := pre.map (prl ss c)) (z := a) (by rw [List.getLast?_map, eg]; simp [prl, ea])
          have hgm : g ∈ (grp (pre.map (pr ss c))).map (List.map Prod.fst) := by rw [← rns_eq, hg]; simp
          obtain ⟨g', hg', rfl⟩ := List.mem_map.mp hgm
          have gfew : (g'.map Prod.fst).length ≤ pre.length := by rw [List.length_map]; exact (grp_in hg').1
          rw [hg]
          generalize g'.map Prod.fst = g2 at gfew
          have hgs : grpS (pre.map (prl ss c)) (R ++ [g2]) (prl ss c l) = R ++ [g2 ++ [l]] := by
            unfold grpS
            rw [List.getLast?_map, eg]
            simp [prl, ef, ea]
          rw [hgs]
          simp [ea]
          exact ⟨by omega, by simp [ef]⟩
  · obtain ⟨y5, y6, rfl⟩ := hI
    simp
    refine is_sound_ok hb ho hc ?_
    simp
    unfold rns at h
    cases es : sound ss c ls <;> (rw [es] at h; simpa using h)
end FL

namespace FL
open PySem PySem.Spec PyProof.Rows L2 L3
/-- the law's walk along a leg, k steps of it -/
def at1 (i j k : Nat) : Nat := if i < j then i + k else i - k
theorem stp_take {i j k : Nat} (hk : k < (stp i j).length) : (stp i j).take (k + 1) = (stp i j).take k ++ [(min (at1 i j k) (at1 i j (k + 1)), decide (i < j))] := by
  rw [List.take_add_one]
  congr 1
  unfold stp at1 at *
  split at hk
  · rename_i h
    simp at hk
    simp [h, hk]
  · rename_i h
    simp at hk
    simp [h, hk]
    omega
theorem ways_take {s : Sc} {i j k : Nat} (hk : k < (stp i j).length) : (ways s i j).take (k + 1) = (ways s i j).take k ++ [s.mrk (at1 i j (k + 1))] := by
  rw [List.take_add_one]
  congr 1
  unfold stp at hk
  unfold ways at1
  split at hk
  · rename_i h
    simp at hk
    simp [h, hk]
    congr 1
  · rename_i h
    simp at hk
    simp [h, hk]
    congr 1
theorem stp_len2 {i j : Nat} : (stp i j).length = (if i < j then j - i else i - j) ∧ ∀ s, (ways s i j).length = (stp i j).length := by
  unfold stp ways
  constructor
  · split <;> simp
  · intro s; split <;> simp
def GnI (s : Sc) (d0 d1 d2 : D) (n : Str) (i j : Nat) (MS : List Str) (RS : List (Str × Nat × Bool)) (μ : List SV) (m : Nat) (S : Sto) : Prop := ∃ (k : Nat) (y10 : Option SV) (M : List Str) (R : List (Str × Nat × Bool)), k + m = (stp i j).length ∧ M = MS ++ (ways s i j).take k ∧ R = RS ++ ((stp i j).take k).map (fun q => (n, q.1, q.2)) ∧ S = ⟨[some (.dat d0), some (.dat d1), some (.dat d2), some (.own (sL M)), some (.own (R.map fun t => .dat (psD t))), some (.dat (.str n)), some (.dat (.int i)), some (.dat (.int j)), some (.dat (tS s.ms)), some (.dat (.int (at1 i j k : Nat))), y10], μ⟩
theorem gone_step {s : Sc} {d0 d1 d2 : D} {n : Str} {i j : Nat} {MS : List Str} {RS : List (Str × Nat × Bool)} {y10 : Option SV} {μ : List SV} {P : SO → Prop} (hi : i < s.ms.length) (hj : j < s.ms.length) (h8 : s.ms.length ≤ 8) (hM : MS.length ≤ 1000) (hR : RS.length ≤ 1000)
    (h : ∀ y10, P (.nx ⟨[some (.dat d0), some (.dat d1), some (.dat d2), some (.own (sL (MS ++ ways s i j))), some (.own ((RS ++ (stp i j).map fun q => (n, q.1, q.2)).map fun t => .dat (psD t))), some (.dat (.str n)), some (.dat (.int i)), some (.dat (.int j)), some (.dat (tS s.ms)), some (.dat (.int j)), y10], μ⟩)) :
    Ws (whileF 1000 (fTest (fBin (g2 dNe) (fVar 9) (fVar 7))) lb__law_gone_1) ⟨[some (.dat d0), some (.dat d1), some (.dat d2), some (.own (sL MS)), some (.own (RS.map fun t => .dat (psD t))), some (.dat (.str n)), some (.dat (.int i)), some (.dat (.int j)), some (.dat (tS s.ms)), some (.dat (.int i)), y10], μ⟩ P := by
  obtain ⟨sl, wl⟩ := stp_len2 (i := i) (j := j)
  have wl := wl s
  have l8 : (stp i j).length ≤ 8 := by rw [sl]; split <;> omega
  refine whileF_ind (m := (stp i j).length) (GnI s d0 d1 d2 n i j MS RS μ)
    ⟨0, y10, MS, RS, by simp, by simp, by simp, by simp [at1]⟩ (by omega) (fun m S hI => ?_)
  obtain ⟨k, y10, M, R, hk, hM2, hR2, rfl⟩ := hI
  have hat : (at1 i j k = j ↔ k = (stp i j).length) ∧ at1 i j k < s.ms.length := by
    have hk' := hk
    rw [sl] at hk' ⊢
    unfold at1
    by_cases h : i < j
    · rw [if_pos h] at hk'; rw [if_pos h, if_pos h]; omega
    · rw [if_neg h] at hk'; rw [if_neg h, if_neg h]; omega
  have lM : M.length ≤ 2000 := by rw [hM2]; simp; omega
  have lR : R.length ≤ 2000 := by rw [hR2]; simp; omega
  simp
  refine ⟨fun he => ?_, fun hne => ?_⟩
  · have hkl := hat.1.mp (by omega)
    rw [hkl, ← wl, List.take_length] at hM2
    rw [hkl, List.take_length] at hR2
    have := h y10
    rw [← hM2, ← hR2] at this
    rw [he]
    exact this
  · have hkl : k < (stp i j).length := by
      rcases Nat.lt_or_ge k (stp i j).length with q | q
      · exact q
      · exact absurd (hat.1.mpr (by omega)) (by omega)
    have ht := stp_take hkl
    have hw := ways_take (s := s) hkl
    have hlt : at1 i j k < j → i < j ∧ at1 i j (k + 1) = at1 i j k + 1 := by
      have hk' := hkl
      rw [sl] at hk'
      unfold at1
      by_cases h : i < j
      · rw [if_pos h, if_pos h]; omega
      · rw [if_neg h] at hk'; rw [if_neg h, if_neg h]; omega
    have hgt : ¬ at1 i j k < j → ¬ i < j ∧ at1 i j (k + 1) + 1 = at1 i j k := by
      have hk' := hkl
      rw [sl] at hk'
      unfold at1
      by_cases h : i < j
      · rw [if_pos h] at hk'; rw [if_pos h, if_pos h]; omega
      · rw [if_neg h] at hk'; rw [if_neg h, if_neg h]; omega
    have hat2 := hat.2
    unfold lb__law_gone_1
    simp
    refine ⟨fun hl => ?_, fun hg => ?_⟩
    · obtain ⟨h1, h2⟩ := hlt hl
      have e1 : ((at1 i j k : Nat) : Int) + 1 = (at1 i j (k + 1) : Nat) := by omega
      rw [e1, Sc.at_ok (by omega), if_neg (by omega)]
      simp
      refine ⟨by omega, by omega, m - 1, by omega, k + 1, some (.dat (.int 1)), M ++ [s.mrk (at1 i j (k + 1))], R ++ [(n, at1 i j k, true)], by omega, by rw [hM2, hw, List.append_assoc], ?_, by simp⟩
      rw [hR2, ht, List.map_append, List.append_assoc]
      simp [h1, h2]
    · obtain ⟨h1, h2⟩ := hgt (by omega)
      have e1 : ((at1 i j k : Nat) : Int) + -1 = (at1 i j (k + 1) : Nat) := by omega
      rw [e1, Sc.at_ok (by omega), if_pos (by omega)]
      simp
      refine ⟨by omega, by omega, m - 1, by omega, k + 1, some (.dat (.int (-1))), M ++ [s.mrk (at1 i j (k + 1))], R ++ [(n, at1 i j (k + 1), false)], by omega, by rw [hM2, hw, List.append_assoc], ?_, by simp⟩
      rw [hR2, ht, List.map_append, List.append_assoc]
      simp [h1]
      omega
end FL

namespace FL
open PySem PySem.Spec PyProof.Rows L2 L3
theorem strs_nil {ys : List Str} (hl : ys.length ≤ 1000) (h : ∀ y ∈ ys, Wd y) : eqD (.lst (ys.map D.str)) (.lst []) = some (decide (ys = [])) := by
  have b1 : Bd (.lst (ys.map D.str)) 40000 5 := bd_lst (w := 8) (p := 0) (n := 1000) (bd_map fun t ht => bd_wd (h t ht) (by decide)) (by simpa using hl)
  have b2 : Bd (.lst []) 40000 5 := bd_lst (w := 5000) (p := 3) (n := 6) (by simp) (by simp)
  rw [Bd.eq (b1.mono (Nat.le_refl _) (by decide)) (b2.mono (Nat.le_refl _) (by decide)), eqT_pl (by simp) (by simp)]
  congr 1
  cases ys <;> simp
theorem ways_mem {s : Sc} {i j : Nat} (ok : s.Ok) (hi : i < s.ms.length) (hj : j < s.ms.length) : ∀ y ∈ ways s i j, Wd y := by
  intro y hy
  unfold ways at hy
  split at hy
  · obtain ⟨k, hk, rfl⟩ := List.mem_map.mp hy
    rw [List.mem_range] at hk
    exact ok.marks _ (Sc.mrk_mem (by omega))
  · obtain ⟨k, hk, rfl⟩ := List.mem_map.mp hy
    rw [List.mem_range] at hk
    exact ok.marks _ (Sc.mrk_mem (by omega))
theorem trail_wd {ss : List Sc} {c : List Str} (hb : Bk ss) : ∀ {g : List (Lg × Sc)}, (∀ p ∈ g, fnd ss c p.1 = some p.2) → ∀ y ∈ trail g, Wd y
  | [], _, y, hy => by cases hy
  | p :: r, h, y, hy => by
    have key : ∀ q ∈ p :: r, ∀ y ∈ ways q.2 q.1.i q.1.j, Wd y := fun q hq => by
      obtain ⟨hm, n, el, w1, w2, w3, w4⟩ := fnd_some (h q hq)
      exact ways_mem (hb.ok _ hm) w3 w4
    rcases List.mem_cons.mp hy with rfl | hy
    · obtain ⟨hm, n, el, w1, w2, w3, w4⟩ := fnd_some (h p (by simp))
      exact (hb.ok _ hm).marks _ (Sc.mrk_mem w3)
    · obtain ⟨q, hq, hyq⟩ := List.mem_flatMap.mp hy
      exact key q hq y hyq
theorem trail_len {ss : List Sc} {c : List Str} : ∀ {g : List (Lg × Sc)}, (∀ p ∈ g, fnd ss c p.1 = some p.2 ∧ p.1.Ok) → (trail g).length ≤ 8 * g.length + 1
  | [], _ => by simp [trail]
  | p :: r, h => by
    have key : ∀ r : List (Lg × Sc), (∀ q ∈ r, fnd ss c q.1 = some q.2 ∧ q.1.Ok) → (r.flatMap fun p => ways p.2 p.1.i p.1.j).length ≤ 8 * r.length := by
      intro r
      induction r with
      | nil => simp
      | cons q r ih =>
        intro h
        have := ih fun x hx => h x (by simp [hx])
        obtain ⟨h1, h2⟩ := h q (by simp)
        have hl := leg_of h1 h2
        have := ways_len (s := q.2) hl.2.1 hl.2.2.1
        rw [List.flatMap_cons, List.length_append, List.length_cons]; omega
    have := key (p :: r) h
    simp only [trail, List.length_cons] at this ⊢
    omega
def pasP (g : List (Lg × Sc)) : List (Str × Nat × Bool) := g.flatMap fun p => pasL p.1
theorem pasP_len {ss : List Sc} {c : List Str} : ∀ {g : List (Lg × Sc)}, (∀ p ∈ g, fnd ss c p.1 = some p.2 ∧ p.1.Ok) → (pasP g).length ≤ 8 * g.length
  | [], _ => by simp [pasP]
  | p :: r, h => by
    have := pasP_len (g := r) fun x hx => h x (by simp [hx])
    obtain ⟨h1, h2⟩ := h p (by simp)
    have hl := leg_of h1 h2
    have := stp_len hl.2.1 hl.2.2.1
    unfold pasP pasL at *
    rw [List.flatMap_cons, List.length_append, List.length_map, List.length_cons]; omega
theorem gone_ok {ss : List Sc} {o : List D} {g : List (Lg × Sc)} {c : List Str} {μ : List SV} {Q X} (hb : Bk ss) (hc : Cl (some c)) (hl : g.length ≤ 20) (hg : ∀ p ∈ g, fnd ss c p.1 = some p.2 ∧ p.1.Ok)
    (h : Q (.own [.own (sL (trail g)), .own ((pasP g).map fun t => .dat (psD t))]) μ) :
    Wf F__law_gone [.dat (bkD ss o), .dat (.lst (g.map fun p => p.1.d)), .dat (tS c)] μ Q X := by
  unfold F__law_gone fb__law_gone
  simp [wf_run]
  refine forL_ind (fun pre S => ∃ y5 y6 y7 y8 y9 y10, S = ⟨[some (.dat (bkD ss o)), some (.dat (.lst (g.map fun p => p.1.d))), some (.dat (tS c)), some (.own (sL (trail pre))), some (.own ((pasP pre).map fun t => .dat (psD t))), y5, y6, y7, y8, y9, y10], μ⟩) ⟨none, none, none, none, none, none, by simp [trail, pasP]⟩ (fun pre p post S e hI => ?_) (fun S hI => ?_)
  · obtain ⟨y5, y6, y7, y8, y9, y10, rfl⟩ := hI
    obtain ⟨m2, m3⟩ := hg p (by rw [e]; simp)
    obtain ⟨e1, e2, e3, e4, e5, _⟩ := leg_of m2 m3
    obtain ⟨hm, n, el, w1, w2, w3, w4⟩ := fnd_some m2
    have ok := hb.ok _ hm
    have hpre : ∀ q ∈ pre, fnd ss c q.1 = some q.2 ∧ q.1.Ok := fun q hq => hg q (by rw [e]; simp [hq])
    have hpl : pre.length ≤ 20 := by rw [e] at hl; simp at hl; omega
    have tl := trail_len hpre
    have pl := pasP_len hpre
    have twd := trail_wd hb fun q hq => (hpre q hq).1
    have ms : mks ss c p.1 = p.2.ms := by simp [mks, m2]
    have mk := marks_of_ok (o := o) (l := p.1) (c := c) (μ := μ) (Q := fun x μ' => x = .dat (tS p.2.ms) ∧ μ' = μ) (X := fun _ _ => False) hb m3 hc (by rw [ms]; exact ⟨rfl, rfl⟩)
    rw [e1] at mk
    have l8 : p.2.ms.length ≤ 8 := by have := ok.len; have := ok.few; omega
    unfold lb__law_gone_2
    simp [e1]
    refine wf_mono mk (fun x μ' hx => ?_) (fun _ _ h => h.elim)
    obtain ⟨rfl, rfl⟩ := hx
    simp [strs_nil (by omega) twd]
    have pas1 : pasP (pre ++ [p]) = pasP pre ++ (stp p.1.i p.1.j).map fun q => (p.1.n, q.1, q.2) := by unfold pasP; rw [List.flatMap_append]; simp [pasL]
    refine ⟨fun h0 => ?_, fun h0 => ?_⟩
    · have hp0 : pre = [] := by
        cases pre with
        | nil => rfl
        | cons q r => simp [trail] at h0
      simp [Sc.at_ok w3, h0]
      refine gone_step (MS := [p.2.mrk p.1.i]) (RS := pasP pre) w3 w4 l8 (by simp) (by omega) fun y10 => ?_
      have tsn : trail (pre ++ [p]) = [p.2.mrk p.1.i] ++ ways p.2 p.1.i p.1.j := by rw [hp0]; simp [trail]
      show ∃ _, _
      rw [pas1, tsn]
      exact ⟨_, _, _, _, _, y10, rfl⟩
    · have hp0 : pre ≠ [] := fun h1 => h0 (by rw [h1]; rfl)
      refine gone_step (MS := trail pre) (RS := pasP pre) w3 w4 l8 (by omega) (by omega) fun y10 => ?_
      show ∃ _, _
      rw [pas1, trail_snoc hp0]
      exact ⟨_, _, _, _, _, y10, rfl⟩
  · obtain ⟨y5, y6, y7, y8, y9, y10, rfl⟩ := hI
    simp
    exact h
end FL

namespace FL
open PySem PySem.Spec PyProof.Rows L2 L3
/-- the section of a name -/
def scn (ss : List Sc) (n : Str) : Option Sc := ss.find? fun s => decide (s.n = n)
theorem scn_filter {ss : List Sc} {n : Str} {s : Sc} (hs : s ∈ ss) (hnd : (ss.map Sc.n).Nodup) (e : s.n = n) : ss.filter (fun t => decide (t.n = n)) = [s] := by
  induction ss with
  | nil => cases hs
  | cons t ss ih =>
    simp only [List.map_cons, List.nodup_cons] at hnd
    rcases List.mem_cons.mp hs with rfl | hs
    · have : ss.filter (fun t => decide (t.n = n)) = [] := by
        rw [List.filter_eq_nil_iff]
        intro u hu
        simp only [decide_eq_true_eq]
        intro eu
        exact hnd.1 (by rw [e, ← eu]; exact List.mem_map_of_mem hu)
      rw [List.filter_cons, if_pos (by simpa using e), this]
    · have hne : t.n ≠ n := fun et => hnd.1 (by rw [et, ← e]; exact List.mem_map_of_mem hs)
      rw [List.filter_cons, if_neg (by simpa using hne)]
      exact ih hs hnd.2
/-- rows of a book's own -/
def RwOk (ss : List Sc) (t : Str × Nat × Bool) : Prop := ∃ s ∈ ss, s.n = t.1 ∧ t.2.1 < s.rw.length
def rwv (ss : List Sc) (t : Str × Nat × Bool) : Int × Int × Int := match scn ss t.1 with
  | none => (0, 0, 0)
  | some s => stv s.rw (t.2.1, t.2.2)
theorem rwv_of {ss : List Sc} (hnd : (ss.map Sc.n).Nodup) {s : Sc} {n : Str} {q : Nat × Bool} (hs : s ∈ ss) (e : s.n = n) : rwv ss (n, q.1, q.2) = stv s.rw q := by
  have h := scn_filter hs hnd e
  unfold rwv scn
  have : ss.find? (fun t => decide (t.n = n)) = some s := by
    rw [← List.head?_filter, h]; rfl
  rw [this]
theorem pasL_ok {ss : List Sc} {c : List Str} (hb : Bk ss) {p : Lg × Sc} (hf : fnd ss c p.1 = some p.2) (ho : p.1.Ok) : (∀ t ∈ pasL p.1, RwOk ss t) ∧ sum3 ((pasL p.1).map (rwv ss)) = mz p := by
  obtain ⟨e1, e2, e3, e4, e5, e6⟩ := leg_of hf ho
  obtain ⟨hm, n, el, w1, w2, w3, w4⟩ := fnd_some hf
  have hl := (hb.ok _ hm).len
  constructor
  · intro t ht
    obtain ⟨q, hq, rfl⟩ := List.mem_map.mp ht
    refine ⟨p.2, hm, e6, ?_⟩
    show q.1 < p.2.rw.length
    unfold stp at hq
    split at hq
    · obtain ⟨k, hk, rfl⟩ := List.mem_map.mp hq
      rw [List.mem_range] at hk
      show p.1.i + k < _
      omega
    · obtain ⟨k, hk, rfl⟩ := List.mem_map.mp hq
      rw [List.mem_range] at hk
      show p.1.i - 1 - k < _
      omega
  · unfold pasL mz meas
    rw [List.map_map]
    congr 1
    apply List.map_congr_left
    intro q _
    exact rwv_of hb.nd hm e6
theorem law_sums_ok {ss : List Sc} {o : List D} {R : List (Str × Nat × Bool)} {μ : List SV} {Q X} (hb : Bk ss) (hl : R.length ≤ 1000) (hr : ∀ t ∈ R, RwOk ss t) (h : Q (.dat (enc (sum3 (R.map (rwv ss))))) μ) :
    Wf F__law_sums [.dat (bkD ss o), .dat (.lst (R.map psD))] μ Q X := by
  unfold F__law_sums fb__law_sums
  simp [wf_run]
  refine forL_ind (fun pre S => ∃ y5 y6 y7 y8, S = ⟨[some (.dat (bkD ss o)), some (.dat (.lst (R.map psD))), some (.dat (.int (sum3 (pre.map (rwv ss))).1)), some (.dat (.int (sum3 (pre.map (rwv ss))).2.1)), some (.dat (.int (sum3 (pre.map (rwv ss))).2.2)), y5, y6, y7, y8, none], μ⟩) ⟨none, none, none, none, by simp [sum3]⟩ (fun pre t post S e hI => ?_) (fun S hI => ?_)
  · obtain ⟨y5, y6, y7, y8, rfl⟩ := hI
    obtain ⟨n, k, f⟩ := t
    obtain ⟨s, hs, en, hk⟩ := hr (n, k, f) (by rw [e]; simp)
    simp only at en hk
    have hf := scn_filter hs hb.nd en
    have hv := rwv_of hb.nd (q := (k, f)) hs en
    obtain ⟨tt, et⟩ : ∃ tt, s.rw[k]? = some tt := ⟨_, List.getElem?_eq_getElem hk⟩
    have eat : atI s.rw (k : Int) = some tt := by rw [atI_in (by omega) (by omega)]; simpa using et
    have sn : sum3 ((pre ++ [(n, k, f)]).map (rwv ss)) = add3 (sum3 (pre.map (rwv ss))) (len tt, upw f tt, upw (!f) tt) := by
      rw [List.map_append, List.map_cons, List.map_nil, sum3_snoc]
      congr 1
      show rwv ss (n, k, f) = _
      rw [hv]; unfold stv; rw [et]
    unfold lb__law_sums_1
    simp
    refine ctL_filter (fun t => decide (t.n = n)) (fun t => .dat (enc tt)) (by have := hb.few; omega) (fun t ht => ?_) ?_
    · simp [Sc.d]
      intro h1
      have : t ∈ ss.filter (fun t => decide (t.n = n)) := List.mem_filter.mpr ⟨ht, by simpa using h1⟩
      rw [hf] at this
      rw [List.mem_singleton.mp this, eat]
      simp
    · rw [hf, sn]
      simp [enc]
      cases f <;> simp [add3, len, upw]
  · obtain ⟨y5, y6, y7, y8, rfl⟩ := hI
    simp
    exact h
/-- what each leg has by itself -/
theorem one_by_one_ok {ss : List Sc} {o : List D} {ls : List Lg} {c : List Str} {μ : List SV} {Q X} (hb : Bk ss) (hl : ls.length ≤ 80) (ho : ∀ l ∈ ls, l.Ok) (hc : Cl (some c)) (h : Q (.dat (enc (sms ss c ls))) μ) :
    Wf F__law_one_by_one [.dat (bkD ss o), .dat (.tup (ls.map Lg.d)), .dat (tS c)] μ Q X := by
  unfold F__law_one_by_one fb__law_one_by_one
  simp [wf_run]
  refine law_counted_ok hb hl ho hc ?_
  simp
  rw [← prs_cnt, List.map_map]
  refine forL_ind (fun pre S => ∃ y4 y5, S = ⟨[some (.dat (bkD ss o)), some (.dat (.tup (ls.map Lg.d))), some (.dat (tS c)), some (.dat (enc (sum3 (pre.map mz)))), y4, y5, none], μ⟩) ⟨none, none, by simp [sum3, enc]⟩ (fun pre p post S e hI => ?_) (fun S hI => ?_)
  · obtain ⟨y4, y5, rfl⟩ := hI
    obtain ⟨h1, h2⟩ := prs_mem (p := p) (by rw [e]; simp)
    obtain ⟨e1, e2, e3, e4, e5, e6⟩ := leg_of h2 (ho _ h1)
    obtain ⟨hm, n, el, w1, w2, w3, w4⟩ := fnd_some h2
    have hf := scn_filter hm hb.nd e6
    have sn : sum3 ((pre ++ [p]).map mz) = add3 (sum3 (pre.map mz)) (mz p) := by rw [List.map_append, List.map_cons, List.map_nil, sum3_snoc]
    have me := measure_ok2 (l := p.1) (s := p.2) (μ := μ) (Q := fun x μ' => x = .dat (enc (mz p)) ∧ μ' = μ) (X := fun _ _ => False) (hb.ok _ hm) h2 (ho _ h1) ⟨rfl, rfl⟩
    rw [sn]
    unfold lb__law_one_by_one_1
    simp [e1]
    refine ctL_filter (fun t => decide (t.n = p.1.n)) (fun t => .dat t.d) (by have := hb.few; omega) (fun t ht => ?_) ?_
    · simp [Sc.d]
    · rw [hf]
      rw [e1] at me
      simp
      refine wf_mono me (fun x μ' hx => ?_) (fun _ _ h => h.elim)
      obtain ⟨rfl, rfl⟩ := hx
      simp [enc, add3]
  · obtain ⟨y4, y5, rfl⟩ := hI
    simp
    exact h
end FL

namespace FL
open PySem PySem.Spec PyProof.Rows L2 L3
/-- the runs that count, where all is sound -/
def rnp (ss : List Sc) (c : List Str) (ls : List Lg) : List (List (Lg × Sc)) := if sound ss c ls then grp (ls.map (pr ss c)) else []
theorem rnp_rns {ss : List Sc} {c : List Str} {ls : List Lg} : rns ss c ls = (rnp ss c ls).map (List.map Prod.fst) := by
  unfold rns rnp
  cases sound ss c ls with
  | false => rfl
  | true => simp only [if_true]; exact rns_eq
theorem rnp_trs {ss : List Sc} {c : List Str} {ls : List Lg} : trs ss c ls = (rnp ss c ls).map trail := by
  unfold trs rnp; cases sound ss c ls <;> rfl
theorem flatMap_flat {α β : Type} {f : α → List β} : ∀ {G : List (List α)}, G.flatten.flatMap f = G.flatMap fun g => g.flatMap f
  | [] => rfl
  | g :: G => by rw [List.flatten_cons, List.flatMap_append, List.flatMap_cons, flatMap_flat]
theorem rnp_pas {ss : List Sc} {c : List Str} {ls : List Lg} : pas ss c ls = (rnp ss c ls).flatMap pasP := by
  unfold pas rnp prs
  cases sound ss c ls with
  | false => rfl
  | true =>
    simp only [if_true]
    have hf := grp_flat (xs := ls.map (pr ss c))
    rw [List.filterMap_map] at hf
    have hf : (grp (ls.map (pr ss c))).flatten = ls.filterMap (pr ss c) := hf
    rw [← hf]; exact flatMap_flat
theorem rnp_len {ss : List Sc} {c : List Str} {ls : List Lg} : (rnp ss c ls).length ≤ ls.length := by
  unfold rnp; split
  · exact grp_few
  · simp
theorem rnp_in {ss : List Sc} {c : List Str} {ls : List Lg} (ho : ∀ l ∈ ls, l.Ok) {g : List (Lg × Sc)} (h : g ∈ rnp ss c ls) : g.length ≤ ls.length ∧ ∀ p ∈ g, fnd ss c p.1 = some p.2 ∧ p.1.Ok := by
  unfold rnp at h
  split at h
  · obtain ⟨h1, h2⟩ := grp_in h
    exact ⟨h1, fun p hp => ⟨(h2 p hp).2, ho _ (h2 p hp).1⟩⟩
  · cases h
abbrev lS (ys : List Str) : D := .lst (ys.map D.str)
abbrev trD2 (ts : List (List Str)) : D := .lst (ts.map lS)
abbrev paD (R : List (Str × Nat × Bool)) : D := .lst (R.map psD)
theorem trs_bd {ss : List Sc} {c : List Str} {ls : List Lg} (hb : Bk ss) (hl : ls.length ≤ 20) (ho : ∀ l ∈ ls, l.Ok) : Bd (trD2 (trs ss c ls)) 40000 5 := by
  rw [rnp_trs]
  refine bd_lst (w := 1800) (p := 1) (n := 20) (bd_map fun t ht => ?_) (by rw [List.length_map, List.length_map]; exact Nat.le_trans rnp_len hl)
  obtain ⟨g, hg, rfl⟩ := List.mem_map.mp ht
  obtain ⟨h1, h2⟩ := rnp_in ho hg
  have tl := trail_len h2
  exact bd_lst (w := 8) (p := 0) (n := 200) (bd_map fun y hy => bd_wd (trail_wd hb (fun p hp => (h2 p hp).1) y hy) (by decide)) (by rw [List.length_map]; omega)
theorem pas_ok2 {ss : List Sc} {c : List Str} {ls : List Lg} (hb : Bk ss) (ho : ∀ l ∈ ls, l.Ok) : (∀ t ∈ pas ss c ls, RwOk ss t) ∧ sum3 ((pas ss c ls).map (rwv ss)) = sms ss c ls ∧ (pas ss c ls).length ≤ 8 * ls.length := by
  have key : ∀ ps : List (Lg × Sc), (∀ p ∈ ps, fnd ss c p.1 = some p.2 ∧ p.1.Ok) → (∀ t ∈ pasP ps, RwOk ss t) ∧ sum3 ((pasP ps).map (rwv ss)) = sum3 (ps.map mz) := by
    intro ps
    induction ps with
    | nil => intro _; simp [pasP]
    | cons p ps ih =>
      intro h
      obtain ⟨i1, i2⟩ := ih fun q hq => h q (by simp [hq])
      obtain ⟨h1, h2⟩ := h p (by simp)
      obtain ⟨k1, k2⟩ := pasL_ok hb h1 h2
      have e1 : pasP (p :: ps) = pasL p.1 ++ pasP ps := List.flatMap_cons
      rw [e1]
      constructor
      · intro t ht
        rcases List.mem_append.mp ht with ht | ht
        · exact k1 t ht
        · exact i1 t ht
      · rw [List.map_append, sum3_app, k2, i2, List.map_cons, sum3_cons]
  have hp : ∀ p ∈ prs ss c ls, fnd ss c p.1 = some p.2 ∧ p.1.Ok := fun p hp => by
    obtain ⟨h1, h2⟩ := prs_mem hp
    exact ⟨h2, ho _ h1⟩
  obtain ⟨k1, k2⟩ := key _ hp
  have hl := pasP_len hp
  have := prs_len (ss := ss) (c := c) (ls := ls)
  exact ⟨k1, k2, Nat.le_trans hl (by omega)⟩
theorem pas_wd {ss : List Sc} {c : List Str} {ls : List Lg} (hb : Bk ss) (ho : ∀ l ∈ ls, l.Ok) : ∀ t ∈ pas ss c ls, Bd (psD t) 126 1 := by
  intro t ht
  obtain ⟨s, hs, en, hk⟩ := (pas_ok2 hb ho).1 t ht
  have ok := hb.ok s hs
  have := ok.few
  exact bd_tup (w := 41) (p := 0) (n := 3) (bd_three (bd_wd (en ▸ ok.name) (by decide)) (bd_int (by omega) (by decide)) bd_bl) (by simp)
theorem pas_bd {ss : List Sc} {c : List Str} {ls : List Lg} (hb : Bk ss) (hl : ls.length ≤ 80) (ho : ∀ l ∈ ls, l.Ok) : Bd (paD (pas ss c ls)) 100000 5 :=
  bd_lst (w := 126) (p := 1) (n := 640) (bd_map fun t ht => pas_wd hb ho t ht) (by rw [List.length_map]; have := (pas_ok2 (c := c) hb ho).2.2; omega)
theorem sms_bd {ss : List Sc} {c : List Str} {ls : List Lg} (hb : Bk ss) (hl : ls.length ≤ 80) (ho : ∀ l ∈ ls, l.Ok) : Sm3 640000 (sms ss c ls) ∧ Bd (enc (sms ss c ls)) 200 2 := by
  have h1 : Sm3 640000 (sms ss c ls) := by
    have := sum3_sm (n := 8000) (by omega) (xs := (prs ss c ls).map mz) (fun x hx => by
      obtain ⟨p, hp, rfl⟩ := List.mem_map.mp hx
      obtain ⟨h1, h2⟩ := prs_mem hp
      have hl := leg_of h2 (ho _ h1)
      exact meas_sm3 (hb.ok _ (fnd_some h2).1).rows hl.2.1 hl.2.2.1)
    have hp := prs_len (ss := ss) (c := c) (ls := ls)
    rw [List.length_map] at this
    unfold sms
    unfold Sm3 at *
    omega
  refine ⟨h1, ?_⟩
  unfold Sm3 at h1
  exact bd_tup (w := 41) (p := 0) (n := 3) (bd_three (bd_int (by omega) (by decide)) (bd_int (by omega) (by decide)) (bd_int (by omega) (by decide))) (by simp)
theorem Bd.self {d : D} (h : Bd d (2 ^ 20) 64) : eqD d d = some true := by rw [Bd.eq h h, eqT_self h.sm]
end FL

namespace L3
open PySem PySem.Spec PyProof.Rows L2
@[simp] theorem tg_tpL {ts : List Tg} {ds : List D} {ρ : List (Option SV)} : tgS (.tp ts) (.lst ds) ρ = tgsS ts ds ρ := by simp [tgS]
end L3
namespace FL
open PySem PySem.Spec PyProof.Rows L2 L3
theorem pk_trs {ts : List (List Str)} : peeks (ts.map fun t => SV.own (sL t)) = some (ts.map lS) := peeks_mapg fun t _ => by simp
theorem right16_ok {ss : List Sc} {o : List D} {ls : List Lg} {c : List Str} {μ : List SV} {Q X} (hb : BkO ss o) (hl : ls.length ≤ 20) (ho : ∀ l ∈ ls, l.Ok) (hc : Cl (some c)) (h : Q (.dat (.bl true)) μ) :
    Wf F__law_right_b6f [.dat (bkD ss o), .dat (.tup (ls.map Lg.d)), .dat (tS c)] μ Q X := by
  have r1 : Bd (.lst [bkD ss o, .tup (ls.map Lg.d), tS c]) (2 ^ 20) 64 := bd_lst (w := 200000) (p := 6) (n := 3) (bd_three (hb.bd.mono (by decide) (by decide)) ((lgs_bd (Nat.le_trans hl (by decide)) ho).2.mono (by decide) (by decide)) ((cl_bd hc).mono (by decide) (by decide))) (by simp)
  have q1 := r1.repr
  have bt := trs_bd (c := c) hb.toBk hl ho
  have bp := pas_bd (c := c) hb.toBk (Nat.le_trans hl (by decide)) ho
  have bs := (sms_bd (c := c) hb.toBk (Nat.le_trans hl (by decide)) ho).2
  have qt := (bt.mono (w' := 2 ^ 20) (p' := 64) (by decide) (by decide)).repr
  have qp := (bp.mono (w' := 2 ^ 20) (p' := 64) (by decide) (by decide)).repr
  have qs := (bs.mono (w' := 2 ^ 20) (p' := 64) (by decide) (by decide)).repr
  have es := (bs.mono (w' := 2 ^ 20) (p' := 64) (by decide) (by decide)).self
  have b2 : Bd (.lst [trD2 (trs ss c ls), paD (pas ss c ls)]) (2 ^ 20) 64 := bd_lst (w := 100000) (p := 5) (n := 2) (bd_two (bt.mono (by decide) (by decide)) bp) (by simp)
  have q2 := b2.repr
  obtain ⟨p1, p2, p3⟩ := pas_ok2 (c := c) hb.toBk ho
  unfold F__law_right_b6f fb__law_right_b6f
  simp [wf_run, q1]
  refine runs_ok hb.toBk hl ho hc ?_
  have pk : peeks ((rns ss c ls).map lV) = some ((rnp ss c ls).map fun g => .lst (g.map fun p => p.1.d)) := by
    rw [rnp_rns, List.map_map]
    refine peeks_mapg fun g _ => ?_
    show (lV (g.map Prod.fst)).peek = _
    simp [lV, Function.comp_def]
  simp [pk]
  refine ctL_map (fun g => .own [.own (sL (trail g)), .own ((pasP g).map fun t => .dat (psD t))]) (by have := rnp_len (ss := ss) (c := c) (ls := ls); omega) (fun g hg => ?_) ?_
  · obtain ⟨h1, h2⟩ := rnp_in ho hg
    simp
    refine gone_ok hb.toBk hc (by omega) h2 ?_
    simp
  · have pk2 : peeks ((rnp ss c ls).map fun g => SV.own [.own (sL (trail g)), .own ((pasP g).map fun t => .dat (psD t))]) = some ((rnp ss c ls).map fun g => .lst [lS (trail g), paD (pasP g)]) := peeks_mapg fun g _ => by simp
    simp [pk2]
    refine ctL_map (fun g => .dat (lS (trail g))) (by have := rnp_len (ss := ss) (c := c) (ls := ls); omega) (fun g hg => ?_) ?_
    · simp
    · have e1 : ((rnp ss c ls).map fun g => SV.dat (lS (trail g))) = ((trs ss c ls).map lS).map SV.dat := by rw [rnp_trs, List.map_map, List.map_map]; rfl
      rw [e1]
      simp
      refine forL_ind (fun pre S => ∃ y7 y8, S = ⟨[some (.dat (bkD ss o)), some (.dat (.tup (ls.map Lg.d))), some (.dat (tS c)), some (.dat (.str (pyOf (.lst [bkD ss o, .tup (ls.map Lg.d), tS c])).shown)), some (.dat (.lst ((rnp ss c ls).map fun g => .lst [lS (trail g), paD (pasP g)]))), some (.dat (trD2 (trs ss c ls))), some (.dat (paD (pre.flatMap pasP))), y7, y8, none, none, none], μ⟩) ⟨none, none, by simp⟩ (fun pre g post S e hI => ?_) (fun S hI => ?_)
      · obtain ⟨y7, y8, rfl⟩ := hI
        have hgl : (pre.flatMap pasP).length + (pasP g).length ≤ 1000 := by
          have := p3
          rw [rnp_pas, e] at this
          simp only [List.flatMap_append, List.flatMap_cons, List.length_append] at this
          omega
        unfold lb__law_right_b6f_1
        simp
        rw [List.length_flatMap] at hgl
        omega
      · obtain ⟨y7, y8, rfl⟩ := hI
        rw [← rnp_pas]
        simp
        refine trails_ok (c := some c) hb.toBk hl ho hc ?_
        simp
        refine passed_ok (c := some c) hb.toBk (Nat.le_trans hl (by decide)) ho hc ?_
        have sh : shut (some c) = c := rfl
        simp [sh, pk_trs, qt, qp]
        refine sums_of_ok (c := some c) hb.toBk (Nat.le_trans hl (by decide)) ho hc ?_
        simp [sh, qs]
        refine law_sums_ok hb.toBk (by omega) p1 ?_
        rw [p2]
        simp [qs, -ws_seq]
        have lt : (trs ss c ls).length ≤ 20 := by rw [rnp_trs, List.length_map]; exact Nat.le_trans rnp_len hl
        have lz : ∀ t ∈ trs ss c ls, t.length ≤ 200 := fun t ht => by
          rw [rnp_trs] at ht
          obtain ⟨g, hg, rfl⟩ := List.mem_map.mp ht
          obtain ⟨h1, h2⟩ := rnp_in ho hg
          have := trail_len h2
          omega
        obtain ⟨z, zs, hz, zl⟩ : ∃ z zs, ((trs ss c ls).map fun t => SV.own (sL t)) ++ [SV.own [SV.dat (.str "told")]] = SV.own (sL z) :: zs ∧ z.length ≤ 200 := by
          cases et : trs ss c ls with
          | nil => exact ⟨["told"], [], rfl, by simp⟩
          | cons t ts => exact ⟨t, _, rfl, lz t (by rw [et]; simp)⟩
        refine ws_cut1 ⟨[some (.dat (bkD ss o)), some (.dat (.tup (ls.map Lg.d))), some (.dat (tS c)), some (.dat (.str (pyOf (.lst [bkD ss o, .tup (ls.map Lg.d), tS c])).shown)), some (.dat (.lst ((rnp ss c ls).map fun g => .lst [lS (trail g), paD (pasP g)]))), some (.dat (trD2 (trs ss c ls))), some (.dat (paD (pas ss c ls))), y7, y8, some (.own (.own (sL z) :: zs)), some (.own ((pas ss c ls).map fun t => .dat (psD t))), none], μ⟩ ?_ ?_
        · rw [← hz]; simp; omega
        · simp
          refine ⟨by omega, by omega, ?_⟩
          refine trails_ok (c := some c) hb.toBk hl ho hc ?_
          simp
          refine passed_ok (c := some c) hb.toBk (Nat.le_trans hl (by decide)) ho hc ?_
          simp [sh, pk_trs, q2]
          refine one_by_one_ok hb.toBk (Nat.le_trans hl (by decide)) ho hc ?_
          simp
          refine sums_of_ok (c := some c) hb.toBk (Nat.le_trans hl (by decide)) ho hc ?_
          simp [sh, es, q1]
          exact h
end FL

namespace FL
open PySem PySem.Spec PyProof.Rows L2 L3
@[simp] theorem peeks_rev : ∀ {xs : List SV}, peeks xs.reverse = (peeks xs).map List.reverse
  | [] => rfl
  | x :: xs => by
    rw [List.reverse_cons, peeks_app, peeks_rev, s_pks1]
    cases e2 : peeks xs <;> cases e : x.peek <;> simp [e, e2]
theorem turnL_ok {ls : List Lg} (ho : ∀ l ∈ ls, l.Ok) : ∀ l ∈ turnL ls, l.Ok := by
  intro l hl
  obtain ⟨m, hm, rfl⟩ := List.mem_map.mp hl
  exact turn_ok (ho m (by simpa using hm))
theorem turnL_len {ls : List Lg} : (turnL ls).length = ls.length := by simp [turnL]
theorem back_ok {ss : List Sc} {o : List D} {ls : List Lg} {c : List Str} {μ : List SV} {Q X} (hb : BkO ss o) (hl : ls.length ≤ 20) (ho : ∀ l ∈ ls, l.Ok) (hc : Cl (some c)) (h : Q (.dat (.bl true)) μ) :
    Wf F__law_back_right [.dat (bkD ss o), .dat (.tup (ls.map Lg.d)), .dat (tS c)] μ Q X := by
  have hl2 : (turnL ls).length ≤ 20 := by rw [turnL_len]; exact hl
  have ho2 := turnL_ok ho
  have sh : shut (some c) = c := rfl
  have bt := ((trs_bd (c := c) hb.toBk hl2 ho2).mono (w' := 2 ^ 20) (p' := 64) (by decide) (by decide)).self
  have bp := ((pas_bd (c := c) hb.toBk (Nat.le_trans hl2 (by decide)) ho2).mono (w' := 2 ^ 20) (p' := 64) (by decide) (by decide)).self
  have bs := ((sms_bd (c := c) hb.toBk (Nat.le_trans hl2 (by decide)) ho2).2.mono (w' := 2 ^ 20) (p' := 64) (by decide) (by decide)).self
  have pp : (pas ss c ls).length ≤ 160 := by have := (pas_ok2 (c := c) hb.toBk ho).2.2; omega
  have lt : (trs ss c ls).length ≤ 20 := by rw [rnp_trs, List.length_map]; exact Nat.le_trans rnp_len hl
  unfold F__law_back_right fb__law_back_right
  simp [wf_run]
  refine turned_ok (Nat.le_trans hl (by decide)) ho ?_
  simp
  refine trails_ok (c := some c) hb.toBk hl ho hc ?_
  simp [sh, pk_trs]
  refine ctL_map (fun t => .own (sL t).reverse) (by omega) (fun t ht => ?_) ?_
  · simp
  · have e1 : peeks ((trs ss c ls).map fun t => SV.own (sL t).reverse) = some ((trs ss c ls).map fun t => .lst (t.map D.str).reverse) := peeks_mapg fun t _ => by simp
    have e2 : D.lst ((trs ss c ls).map fun t => .lst (t.map D.str).reverse).reverse = trD2 (trs ss c (turnL ls)) := by
      rw [trs_turn ho]
      simp [Function.comp_def]
    simp [e1, e2]
    refine passed_ok (c := some c) hb.toBk (Nat.le_trans hl (by decide)) ho hc ?_
    simp [sh]
    refine ctL_map (fun t => .dat (psD (flip3 t))) (by omega) (fun t ht => ?_) ?_
    · simp [flip3]
    · have e3 : D.lst ((pas ss c ls).map fun t => psD (flip3 t)).reverse = paD (pas ss c (turnL ls)) := by
        rw [pas_turn ho]
        simp [Function.comp_def]
      simp [e3]
      refine sums_of_ok (c := some c) hb.toBk (Nat.le_trans hl (by decide)) ho hc ?_
      simp [sh, enc]
      refine trails_ok (c := some c) hb.toBk hl2 ho2 hc ?_
      simp [sh, pk_trs, bt]
      refine passed_ok (c := some c) hb.toBk (Nat.le_trans hl2 (by decide)) ho2 hc ?_
      simp [sh, bp]
      refine sums_of_ok (c := some c) hb.toBk (Nat.le_trans hl2 (by decide)) ho2 hc ?_
      have e4 : D.tup [.int (sms ss c ls).1, .int (sms ss c ls).2.2, .int (sms ss c ls).2.1] = enc (sms ss c (turnL ls)) := by rw [sms_turn ho]; rfl
      simp [sh, e4, bs]
      exact h
end FL

namespace FL
open PySem PySem.Spec PyProof.Rows L2 L3
/-! ### legs made one -/
/-- the other one goes on where the one ends, the same way -/
def gon : Lg → Lg → Bool
  | .leg n i j, .leg m k l => decide (n = m ∧ j = k ∧ (i < j ↔ k < l))
  | _, _ => false
def sstep (acc : List Lg) (l : Lg) : List Lg := match acc.getLast? with
  | some a => if gon a l then acc.dropLast ++ [.leg l.n a.i l.j] else acc ++ [l]
  | none => acc ++ [l]
def shr (ls : List Lg) : List Lg := ls.foldl sstep []
theorem shr_snoc {ls : List Lg} {l : Lg} : shr (ls ++ [l]) = sstep (shr ls) l := by unfold shr; rw [List.foldl_append]; rfl
theorem sstep_nil {l : Lg} : sstep [] l = [l] := rfl
theorem sstep_app {acc : List Lg} {a l : Lg} : sstep (acc ++ [a]) l = if gon a l then acc ++ [.leg l.n a.i l.j] else acc ++ [a, l] := by
  unfold sstep
  simp
/-- no two neighbours of which the other goes on -/
def gfree : List Lg → Prop
  | a :: b :: r => gon a b = false ∧ gfree (b :: r)
  | _ => True
theorem gfree_snoc {l : Lg} : ∀ {xs : List Lg}, gfree (xs ++ [l]) ↔ gfree xs ∧ ∀ a, xs.getLast? = some a → gon a l = false
  | [] => by simp [gfree]
  | [a] => by simp [gfree]
  | a :: b :: r => by
    show gon a b = false ∧ gfree (b :: r ++ [l]) ↔ _
    rw [gfree_snoc (xs := b :: r), List.getLast?_cons_cons]
    simp [gfree, and_assoc]
theorem gon_leg {a l : Lg} (h : gon a l = true) : ∃ n i j k, a = .leg n i j ∧ l = .leg n j k ∧ (i < j ↔ j < k) := by
  cases a with
  | ride => cases h
  | leg n i j =>
    cases l with
    | ride => cases h
    | leg m k e =>
      simp only [gon, decide_eq_true_eq] at h
      obtain ⟨rfl, rfl, h3⟩ := h
      exact ⟨_, _, _, _, rfl, rfl, h3⟩
theorem gon_of {n : Str} {i j k : Nat} (h : i < j ↔ j < k) : gon (.leg n i j) (.leg n j k) = true := decide_eq_true ⟨rfl, rfl, h⟩
theorem gon_last {p a l : Lg} (h : gon a l = true) (ha : a.i ≠ a.j) (hl : l.i ≠ l.j) : gon p (.leg l.n a.i l.j) = gon p a := by
  obtain ⟨n, i, j, k, rfl, rfl, h3⟩ := gon_leg h
  cases p with
  | ride => rfl
  | leg m x y =>
    have h1 : i ≠ j := ha
    have h2 : j ≠ k := hl
    have : (m = n ∧ y = i ∧ (x < y ↔ i < k)) ↔ (m = n ∧ y = i ∧ (x < y ↔ i < j)) := by
      constructor
      · rintro ⟨e1, e2, e3⟩; exact ⟨e1, e2, by omega⟩
      · rintro ⟨e1, e2, e3⟩; exact ⟨e1, e2, by omega⟩
    show decide (m = n ∧ y = i ∧ (x < y ↔ i < k)) = decide (m = n ∧ y = i ∧ (x < y ↔ i < j))
    simp only [this]
theorem shr_gfree : ∀ {ls : List Lg}, (∀ l ∈ ls, l.Ok) → gfree (shr ls) ∧ (∀ l ∈ shr ls, l.Ok) := by
  intro ls
  have key : ∀ (ls acc : List Lg), (∀ l ∈ ls, l.Ok) → gfree acc → (∀ l ∈ acc, l.Ok) → gfree (ls.foldl sstep acc) ∧ ∀ l ∈ ls.foldl sstep acc, l.Ok := by
    intro ls
    induction ls with
    | nil => intro acc _ h1 h2; exact ⟨h1, h2⟩
    | cons l ls ih =>
      intro acc ho h1 h2
      rw [List.foldl_cons]
      have hl := ho l (by simp)
      refine ih _ (fun x hx => ho x (by simp [hx])) ?_ ?_
      · rcases List.eq_nil_or_concat acc with rfl | ⟨R, a, rfl⟩
        · trivial
        · rw [List.concat_eq_append] at h1 h2 ⊢
          rw [sstep_app]
          have ha := h2 a (by simp)
          split
          · rename_i hg
            rw [gfree_snoc] at h1 ⊢
            refine ⟨h1.1, fun p hp => ?_⟩
            obtain ⟨n, i, j, k, rfl, rfl, h3⟩ := gon_leg hg
            rw [gon_last hg ha.2.2.2 hl.2.2.2]
            exact h1.2 p hp
          · rename_i hg
            rw [show R ++ [a, l] = (R ++ [a]) ++ [l] by simp, gfree_snoc]
            exact ⟨h1, fun b hb => by simp at hb; rw [← hb]; simpa using hg⟩
      · rcases List.eq_nil_or_concat acc with rfl | ⟨R, a, rfl⟩
        · intro x hx; rw [sstep_nil] at hx; rw [List.mem_singleton.mp hx]; exact hl
        · rw [List.concat_eq_append] at h2 ⊢
          rw [sstep_app]
          have ha := h2 a (by simp)
          split
          · rename_i hg
            obtain ⟨n, i, j, k, rfl, rfl, h3⟩ := gon_leg hg
            intro x hx
            rcases List.mem_append.mp hx with hx | hx
            · exact h2 x (by simp [hx])
            · rw [List.mem_singleton.mp hx]
              obtain ⟨a1, a2, a3, a4⟩ := ha
              obtain ⟨l1, l2, l3, l4⟩ := hl
              exact ⟨l1, a2, l3, by show i ≠ k; omega⟩
          · intro x hx
            rw [show R ++ [a, l] = (R ++ [a]) ++ [l] by simp] at hx
            rcases List.mem_append.mp hx with hx | hx
            · exact h2 x hx
            · rw [List.mem_singleton.mp hx]; exact hl
  intro ho
  exact key ls [] ho trivial (by simp)
/-- what has no such neighbours stays -/
theorem snoc_ind {α : Type} {P : List α → Prop} (h0 : P []) (h1 : ∀ xs x, P xs → P (xs ++ [x])) (xs : List α) : P xs := by
  rw [← List.reverse_reverse xs]
  induction xs.reverse with
  | nil => exact h0
  | cons x xs ih => rw [List.reverse_cons]; exact h1 _ _ ih
theorem shr_free {ls : List Lg} : gfree ls → shr ls = ls := by
  refine snoc_ind (P := fun ls => gfree ls → shr ls = ls) (fun _ => rfl) (fun xs l ih h => ?_) ls
  rw [gfree_snoc] at h
  rw [shr_snoc, ih h.1]
  rcases List.eq_nil_or_concat xs with rfl | ⟨R, a, rfl⟩
  · rfl
  · rw [List.concat_eq_append] at h ⊢
    rw [sstep_app, if_neg (by rw [h.2 a (by simp)]; simp)]; simp
/-! ### one by one -/
def ob1 : Lg → List Lg
  | .ride => [.ride]
  | .leg n i j => if i < j then (List.range (j - i)).map fun k => .leg n (i + k) (i + k + 1) else (List.range (i - j)).map fun k => .leg n (i - k) (i - k - 1)
theorem ob1_leg {n : Str} {i j : Nat} : ob1 (.leg n i j) = if i < j then (List.range (j - i)).map fun k => .leg n (i + k) (i + k + 1) else (List.range (i - j)).map fun k => .leg n (i - k) (i - k - 1) := rfl
def flat (ls : List Lg) : List Lg := ls.flatMap ob1
/-- a leg's steps, one at a time, upon what stands -/
theorem steps_up {n : Str} {i : Nat} : ∀ {d : Nat} {acc : List Lg} {b : Nat}, b < i → (((List.range d).map fun k => Lg.leg n (i + k) (i + k + 1)).foldl sstep (acc ++ [.leg n b i])) = acc ++ [.leg n b (i + d)]
  | 0, acc, b, _ => rfl
  | d + 1, acc, b, h => by
    rw [List.range_succ, List.map_append, List.foldl_append, steps_up h]
    show sstep (acc ++ [.leg n b (i + d)]) (.leg n (i + d) (i + d + 1)) = _
    rw [sstep_app, if_pos (gon_of (by omega))]; rfl
theorem steps_dn {n : Str} {i : Nat} : ∀ {d : Nat} {acc : List Lg} {b : Nat}, i < b → d ≤ i → (((List.range d).map fun k => Lg.leg n (i - k) (i - k - 1)).foldl sstep (acc ++ [.leg n b i])) = acc ++ [.leg n b (i - d)]
  | 0, acc, b, _, _ => rfl
  | d + 1, acc, b, h, hd => by
    rw [List.range_succ, List.map_append, List.foldl_append, steps_dn h (by omega)]
    show sstep (acc ++ [.leg n b (i - d)]) (.leg n (i - d) (i - d - 1)) = _
    rw [sstep_app, if_pos (gon_of (by omega))]; rfl
theorem ob1_up {n : Str} {i d : Nat} : ob1 (.leg n i (i + d + 1)) = .leg n i (i + 1) :: (List.range d).map fun k => .leg n (i + 1 + k) (i + 1 + k + 1) := by
  rw [ob1_leg, if_pos (by omega), show i + d + 1 - i = d + 1 by omega, List.range_succ_eq_map, List.map_cons, List.map_map]
  congr 1
  apply List.map_congr_left
  intro k _
  show Lg.leg n (i + (k + 1)) (i + (k + 1) + 1) = _
  rw [show i + (k + 1) = i + 1 + k by omega]
theorem ob1_dn {n : Str} {j d : Nat} : ob1 (.leg n (j + d + 1) j) = .leg n (j + d + 1) (j + d) :: (List.range d).map fun k => .leg n (j + d - k) (j + d - k - 1) := by
  rw [ob1_leg, if_neg (by omega), show j + d + 1 - j = d + 1 by omega, List.range_succ_eq_map, List.map_cons, List.map_map]
  congr 1
  apply List.map_congr_left
  intro k _
  show Lg.leg n (j + d + 1 - (k + 1)) (j + d + 1 - (k + 1) - 1) = _
  rw [show j + d + 1 - (k + 1) = j + d - k by omega]
theorem ob1_fold {acc : List Lg} {l : Lg} (ha : ∀ a ∈ acc, a.Ok) (h : l.Ok) : (ob1 l).foldl sstep acc = sstep acc l := by
  cases l with
  | ride => rfl
  | leg n i j =>
    obtain ⟨h1, h2, h3, h4⟩ := h
    rcases Nat.lt_or_gt_of_ne h4 with hlt | hgt
    · obtain ⟨d, rfl⟩ : ∃ d, j = i + d + 1 := ⟨j - i - 1, by omega⟩
      rw [ob1_up, List.foldl_cons]
      rcases List.eq_nil_or_concat acc with rfl | ⟨R, a, rfl⟩
      · rw [sstep_nil, sstep_nil]
        have := steps_up (n := n) (i := i + 1) (d := d) (acc := []) (b := i) (by omega)
        rw [List.nil_append, List.nil_append] at this
        rw [this, show i + 1 + d = i + d + 1 by omega]
      · rw [List.concat_eq_append, sstep_app, sstep_app]
        have ga : gon a (.leg n i (i + 1)) = gon a (.leg n i (i + d + 1)) := by
          cases a with
          | ride => rfl
          | leg m x y =>
            have : (m = n ∧ y = i ∧ (x < y ↔ i < i + 1)) ↔ (m = n ∧ y = i ∧ (x < y ↔ i < i + d + 1)) := by
              constructor <;> (rintro ⟨e1, e2, e3⟩; exact ⟨e1, e2, by omega⟩)
            show decide _ = decide _
            simp only [this]
        rw [ga]
        split
        · rename_i hg
          obtain ⟨m, x, y, k, rfl, e, h3⟩ := gon_leg hg
          cases e
          show List.foldl sstep (R ++ [.leg n x (i + 1)]) _ = R ++ [.leg n x (i + d + 1)]
          rw [steps_up (by omega), show i + 1 + d = i + d + 1 by omega]
        · show List.foldl sstep (R ++ [a, .leg n i (i + 1)]) _ = _
          rw [show R ++ [a, Lg.leg n i (i + 1)] = (R ++ [a]) ++ [.leg n i (i + 1)] by simp, steps_up (by omega), show i + 1 + d = i + d + 1 by omega]; simp
    · obtain ⟨d, rfl⟩ : ∃ d, i = j + d + 1 := ⟨i - j - 1, by omega⟩
      rw [ob1_dn, List.foldl_cons]
      rcases List.eq_nil_or_concat acc with rfl | ⟨R, a, rfl⟩
      · rw [sstep_nil, sstep_nil]
        have := steps_dn (n := n) (i := j + d) (d := d) (acc := []) (b := j + d + 1) (by omega) (by omega)
        rw [List.nil_append, List.nil_append] at this
        rw [this, show j + d - d = j by omega]
      · rw [List.concat_eq_append] at ha ⊢
        rw [sstep_app, sstep_app]
        have hao := ha a (by simp)
        have ga : gon a (.leg n (j + d + 1) (j + d)) = gon a (.leg n (j + d + 1) j) := by
          cases a with
          | ride => rfl
          | leg m x y =>
            have : (m = n ∧ y = j + d + 1 ∧ (x < y ↔ j + d + 1 < j + d)) ↔ (m = n ∧ y = j + d + 1 ∧ (x < y ↔ j + d + 1 < j)) := by
              constructor <;> (rintro ⟨e1, e2, e3⟩; exact ⟨e1, e2, by omega⟩)
            show decide _ = decide _
            simp only [this]
        rw [ga]
        split
        · rename_i hg
          obtain ⟨m, x, y, k, rfl, e, h3⟩ := gon_leg hg
          cases e
          have hxy : x ≠ j + d + 1 := hao.2.2.2
          show List.foldl sstep (R ++ [.leg n x (j + d)]) _ = R ++ [.leg n x j]
          rw [steps_dn (by omega) (by omega), show j + d - d = j by omega]
        · show List.foldl sstep (R ++ [a, .leg n (j + d + 1) (j + d)]) _ = _
          rw [show R ++ [a, Lg.leg n (j + d + 1) (j + d)] = (R ++ [a]) ++ [.leg n (j + d + 1) (j + d)] by simp, steps_dn (by omega) (by omega), show j + d - d = j by omega]; simp
end FL

namespace FL
open PySem PySem.Spec PyProof.Rows L2 L3
theorem sstep_ok {acc : List Lg} {l : Lg} (ha : ∀ a ∈ acc, a.Ok) (hl : l.Ok) : ∀ a ∈ sstep acc l, a.Ok := by
  rcases List.eq_nil_or_concat acc with rfl | ⟨R, a, rfl⟩
  · intro x hx; rw [sstep_nil] at hx; rw [List.mem_singleton.mp hx]; exact hl
  · rw [List.concat_eq_append] at ha ⊢
    rw [sstep_app]
    have h1 := ha a (by simp)
    split
    · rename_i hg
      obtain ⟨n, i, j, k, rfl, rfl, h3⟩ := gon_leg hg
      intro x hx
      rcases List.mem_append.mp hx with hx | hx
      · exact ha x (by simp [hx])
      · rw [List.mem_singleton.mp hx]
        obtain ⟨a1, a2, a3, a4⟩ := h1
        obtain ⟨l1, l2, l3, l4⟩ := hl
        exact ⟨l1, a2, l3, by show i ≠ k; omega⟩
    · intro x hx
      rw [show R ++ [a, l] = (R ++ [a]) ++ [l] by simp] at hx
      rcases List.mem_append.mp hx with hx | hx
      · exact ha x hx
      · rw [List.mem_singleton.mp hx]; exact hl
theorem shr_flat {ls : List Lg} (ho : ∀ l ∈ ls, l.Ok) : shr (flat ls) = shr ls := by
  have key : ∀ (ls acc : List Lg), (∀ l ∈ ls, l.Ok) → (∀ a ∈ acc, a.Ok) → (flat ls).foldl sstep acc = ls.foldl sstep acc := by
    intro ls
    induction ls with
    | nil => intro acc _ _; rfl
    | cons l ls ih =>
      intro acc h1 h2
      show (ob1 l ++ flat ls).foldl sstep acc = _
      rw [List.foldl_append, ob1_fold h2 (h1 l (by simp)), List.foldl_cons]
      exact ih _ (fun x hx => h1 x (by simp [hx])) (sstep_ok h2 (h1 l (by simp)))
  exact key ls [] ho (by simp)
theorem ob1_join {n : Str} {i j k : Nat} (h1 : i ≠ j) (h2 : j ≠ k) (h : i < j ↔ j < k) : ob1 (.leg n i k) = ob1 (.leg n i j) ++ ob1 (.leg n j k) := by
  rw [ob1_leg, ob1_leg, ob1_leg]
  by_cases hij : i < j
  · rw [if_pos (by omega), if_pos hij, if_pos (by omega), show k - i = (j - i) + (k - j) by omega, List.range_add, List.map_append, List.map_map]
    congr 1
    apply List.map_congr_left
    intro x _
    show Lg.leg n (i + (j - i + x)) (i + (j - i + x) + 1) = _
    rw [show i + (j - i + x) = j + x by omega]
  · rw [if_neg (by omega), if_neg hij, if_neg (by omega), show i - k = (i - j) + (j - k) by omega, List.range_add, List.map_append, List.map_map]
    congr 1
    apply List.map_congr_left
    intro x _
    show Lg.leg n (i - (i - j + x)) (i - (i - j + x) - 1) = _
    rw [show i - (i - j + x) = j - x by omega]
theorem flat_app {xs ys : List Lg} : flat (xs ++ ys) = flat xs ++ flat ys := List.flatMap_append
theorem flat_one {l : Lg} : flat [l] = ob1 l := by simp [flat]
theorem flat_sstep {acc : List Lg} {l : Lg} (ha : ∀ a ∈ acc, a.Ok) (hl : l.Ok) : flat (sstep acc l) = flat acc ++ ob1 l := by
  rcases List.eq_nil_or_concat acc with rfl | ⟨R, a, rfl⟩
  · rw [sstep_nil, flat_one]; rfl
  · rw [List.concat_eq_append] at ha ⊢
    rw [sstep_app]
    have h1 := ha a (by simp)
    split
    · rename_i hg
      obtain ⟨n, i, j, k, rfl, rfl, h3⟩ := gon_leg hg
      rw [flat_app, flat_app, flat_one, flat_one, List.append_assoc]
      congr 1
      exact ob1_join h1.2.2.2 hl.2.2.2 h3
    · rw [show R ++ [a, l] = (R ++ [a]) ++ [l] by simp, flat_app, flat_one]
theorem flat_shr {ls : List Lg} (ho : ∀ l ∈ ls, l.Ok) : flat (shr ls) = flat ls := by
  refine snoc_ind (P := fun ls => (∀ l ∈ ls, l.Ok) → flat (shr ls) = flat ls) (fun _ => rfl) (fun xs l ih h => ?_) ls ho
  have hx : ∀ a ∈ xs, a.Ok := fun a ha => h a (by simp [ha])
  rw [shr_snoc, flat_sstep (shr_gfree hx).2 (h l (by simp)), ih hx, flat_app, flat_one]
theorem free_uniq {X Y : List Lg} (h1 : gfree X) (h2 : gfree Y) (o1 : ∀ l ∈ X, l.Ok) (o2 : ∀ l ∈ Y, l.Ok) (e : flat X = flat Y) : X = Y := by
  rw [← shr_free h1, ← shr_free h2, ← shr_flat o1, ← shr_flat o2, e]
theorem gon_turn {a b : Lg} (ha : a.Ok) (hb : b.Ok) : gon b.turn a.turn = gon a b := by
  cases a with
  | ride => cases b <;> rfl
  | leg n i j =>
    cases b with
    | ride => rfl
    | leg m k l =>
      have h1 : i ≠ j := ha.2.2.2
      have h2 : k ≠ l := hb.2.2.2
      have : (m = n ∧ k = j ∧ (l < k ↔ j < i)) ↔ (n = m ∧ j = k ∧ (i < j ↔ k < l)) := by
        constructor <;> (rintro ⟨e1, e2, e3⟩; exact ⟨e1.symm, e2.symm, by omega⟩)
      show decide (m = n ∧ k = j ∧ (l < k ↔ j < i)) = decide (n = m ∧ j = k ∧ (i < j ↔ k < l))
      simp only [this]
theorem gfree_turn : ∀ {ls : List Lg}, (∀ l ∈ ls, l.Ok) → gfree ls → gfree (turnL ls)
  | [], _, _ => trivial
  | [a], _, _ => trivial
  | a :: b :: r, ho, h => by
    have ih := gfree_turn (ls := b :: r) (fun x hx => ho x (by simp [hx])) h.2
    have e : turnL (a :: b :: r) = turnL (b :: r) ++ [a.turn] := by simp [turnL]
    rw [e, gfree_snoc]
    refine ⟨ih, fun x hx => ?_⟩
    have hx2 : (turnL (b :: r)).getLast? = some b.turn := by simp [turnL]
    rw [hx2] at hx
    cases hx
    rw [gon_turn (ho a (by simp)) (ho b (by simp))]
    exact h.1
theorem ob1_turn {l : Lg} (h : l.Ok) : ob1 l.turn = turnL (ob1 l) := by
  cases l with
  | ride => rfl
  | leg n i j =>
    have hij : i ≠ j := h.2.2.2
    show ob1 (.leg n j i) = _
    unfold turnL
    rw [ob1_leg, ob1_leg]
    rcases Nat.lt_or_gt_of_ne hij with hlt | hgt
    · rw [if_neg (by omega), if_pos hlt]
      apply List.ext_getElem (by simp)
      intro x h1 h2
      simp at h1
      simp [Lg.turn]
      omega
    · rw [if_pos hgt, if_neg (by omega)]
      apply List.ext_getElem (by simp)
      intro x h1 h2
      simp at h1
      simp [Lg.turn]
      omega
theorem turnL_app {xs ys : List Lg} : turnL (xs ++ ys) = turnL ys ++ turnL xs := by simp [turnL]
theorem flat_turn : ∀ {ls : List Lg}, (∀ l ∈ ls, l.Ok) → flat (turnL ls) = turnL (flat ls)
  | [], _ => rfl
  | a :: r, ho => by
    have e : turnL (a :: r) = turnL r ++ [a.turn] := by simp [turnL]
    rw [e, flat_app, flat_one, flat_turn (fun x hx => ho x (by simp [hx])), ob1_turn (ho a (by simp)), ← turnL_app]; rfl
theorem turn_turn {l : Lg} : l.turn.turn = l := by cases l <;> rfl
theorem turnL_turnL {ls : List Lg} : turnL (turnL ls) = ls := by
  unfold turnL
  rw [← List.map_reverse, List.reverse_reverse, List.map_map]
  conv => rhs; rw [← List.map_id ls]
  apply List.map_congr_left
  intro l _
  exact turn_turn
theorem shr_turn {ls : List Lg} (ho : ∀ l ∈ ls, l.Ok) : shr (turnL ls) = turnL (shr ls) := by
  have o2 := turnL_ok ho
  obtain ⟨g1, k1⟩ := shr_gfree o2
  obtain ⟨g2, k2⟩ := shr_gfree ho
  refine free_uniq g1 (gfree_turn k2 g2) k1 (turnL_ok k2) ?_
  rw [flat_shr o2, flat_turn ho, flat_turn k2, flat_shr ho]
end FL

namespace FL
open PySem PySem.Spec PyProof.Rows L2 L3
theorem stp_join {i j k : Nat} (h1 : i ≠ j) (h2 : j ≠ k) (h : i < j ↔ j < k) : stp i k = stp i j ++ stp j k := by
  unfold stp
  by_cases hij : i < j
  · rw [if_pos (by omega), if_pos hij, if_pos (by omega), show k - i = (j - i) + (k - j) by omega, List.range_add, List.map_append, List.map_map]
    congr 1
    apply List.map_congr_left
    intro x _
    show (i + (j - i + x), true) = _
    rw [show i + (j - i + x) = j + x by omega]
  · rw [if_neg (by omega), if_neg hij, if_neg (by omega), show i - k = (i - j) + (j - k) by omega, List.range_add, List.map_append, List.map_map]
    congr 1
    apply List.map_congr_left
    intro x hx
    rw [List.mem_range] at hx
    show (i - 1 - (i - j + x), false) = _
    rw [show i - 1 - (i - j + x) = j - 1 - x by omega]
def cts (ss : List Sc) (l : Lg) : Prop := l.isR = true ∨ (fnd ss [] l).isSome = true
theorem fnd_join {ss : List Sc} {n : Str} {i j k : Nat} {s : Sc} (hnd : (ss.map Sc.n).Nodup) (h1 : fnd ss [] (.leg n i j) = some s) (h2 : (fnd ss [] (.leg n j k)).isSome = true) : fnd ss [] (.leg n j k) = some s ∧ fnd ss [] (.leg n i k) = some s := by
  rw [fnd_by hnd] at h1 h2 ⊢
  rw [fnd_by hnd]
  cases e : nmd ss [] n with
  | none => rw [e] at h1; simp at h1
  | some t =>
    rw [e] at h1 h2
    simp [Option.filter] at h1 h2 ⊢
    obtain ⟨h1, rfl⟩ := h1
    refine ⟨⟨by omega, rfl⟩, by omega, rfl⟩
def ppas (ss : List Sc) (ls : List Lg) : List (Str × Nat × Bool) := pasP (ls.filterMap (pr ss []))
def psum (ss : List Sc) (ls : List Lg) : Int × Int × Int := sum3 ((ls.filterMap (pr ss [])).map mz)
theorem ppas_snoc {ss : List Sc} {xs : List Lg} {l : Lg} : ppas ss (xs ++ [l]) = ppas ss xs ++ pasP (pr ss [] l).toList := by
  unfold ppas pasP
  rw [List.filterMap_append, List.flatMap_append]
  congr 2
theorem psum_snoc {ss : List Sc} {xs : List Lg} {l : Lg} : psum ss (xs ++ [l]) = add3 (psum ss xs) (sum3 ((pr ss [] l).toList.map mz)) := by
  unfold psum
  rw [List.filterMap_append, List.map_append, sum3_app]
  congr 3
theorem sum3_one {x : Int × Int × Int} : sum3 [x] = x := by simp [sum3, add3]
theorem add3_assoc {a b c : Int × Int × Int} : add3 (add3 a b) c = add3 a (add3 b c) := by simp [add3, Int.add_assoc]
theorem shr_keeps {ss : List Sc} (hnd : (ss.map Sc.n).Nodup) {ls : List Lg} (ho : ∀ l ∈ ls, l.Ok ∧ cts ss l) (hs : sound ss [] ls = true) :
    sound ss [] (shr ls) = true ∧ (∀ a ∈ shr ls, cts ss a) ∧ ppas ss (shr ls) = ppas ss ls ∧ psum ss (shr ls) = psum ss ls ∧ ∀ p, ls.getLast? = some p → ∃ a, (shr ls).getLast? = some a ∧ fnd ss [] a = fnd ss [] p ∧ a.j = p.j := by
  refine snoc_ind (P := fun ls => (∀ l ∈ ls, l.Ok ∧ cts ss l) → sound ss [] ls = true → sound ss [] (shr ls) = true ∧ (∀ a ∈ shr ls, cts ss a) ∧ ppas ss (shr ls) = ppas ss ls ∧ psum ss (shr ls) = psum ss ls ∧ ∀ p, ls.getLast? = some p → ∃ a, (shr ls).getLast? = some a ∧ fnd ss [] a = fnd ss [] p ∧ a.j = p.j)
    (fun _ _ => ⟨rfl, by simp [shr], rfl, rfl, by simp⟩) (fun xs l ih h hs => ?_) ls ho hs
  have hx : ∀ a ∈ xs, a.Ok ∧ cts ss a := fun a ha => h a (by simp [ha])
  obtain ⟨hl1, hl2⟩ := h l (by simp)
  rw [sound_snoc, Bool.and_eq_true] at hs
  obtain ⟨i1, i2, i3, i4, i5⟩ := ih hx hs.1
  have okA := (shr_gfree fun a ha => (hx a ha).1).2
  rw [shr_snoc]
  rcases List.eq_nil_or_concat (shr xs) with hA | ⟨R, a, hA⟩
  · have hx0 : xs = [] := by
      rcases List.eq_nil_or_concat xs with rfl | ⟨X, p, rfl⟩
      · rfl
      · obtain ⟨a, ha, _⟩ := i5 p (by simp)
        rw [hA] at ha; simp at ha
    subst hx0
    rw [hA, sstep_nil]
    exact ⟨rfl, by simpa using hl2, rfl, rfl, fun p hp => ⟨l, rfl, by simp at hp; rw [hp], by simp at hp; rw [hp]⟩⟩
  · rw [List.concat_eq_append] at hA
    rw [hA] at i1 i2 i3 i4 i5 okA ⊢
    rw [sstep_app]
    have ha := okA a (by simp)
    split
    · rename_i hg
      obtain ⟨n, i, j, k, rfl, rfl, h3⟩ := gon_leg hg
      have hij : i ≠ j := ha.2.2.2
      have hjk : j ≠ k := hl1.2.2.2
      have ca := i2 (.leg n i j) (by simp)
      obtain ⟨s, fa⟩ : ∃ s, fnd ss [] (.leg n i j) = some s := by
        rcases ca with c | c
        · cases c
        · exact Option.isSome_iff_exists.mp c
      have fl : (fnd ss [] (.leg n j k)).isSome = true := by
        rcases hl2 with c | c
        · cases c
        · exact c
      obtain ⟨f1, f2⟩ := fnd_join hnd fa fl
      have pa : pr ss [] (.leg n i j) = some (.leg n i j, s) := by unfold pr; rw [fa]; rfl
      have pl : pr ss [] (.leg n j k) = some (.leg n j k, s) := by unfold pr; rw [f1]; rfl
      have pk : pr ss [] (.leg n i k) = some (.leg n i k, s) := by unfold pr; rw [f2]; rfl
      show sound ss [] (R ++ [.leg n i k]) = true ∧ (∀ a ∈ R ++ [.leg n i k], cts ss a) ∧ ppas ss (R ++ [.leg n i k]) = _ ∧ psum ss (R ++ [.leg n i k]) = _ ∧ _
      refine ⟨?_, ?_, ?_, ?_, ?_⟩
      · rw [sound_snoc] at i1 ⊢
        cases eR : R.getLast? with
        | none => rw [eR] at i1; exact i1
        | some p =>
          rw [eR] at i1
          have : okp ss [] p (.leg n i k) = okp ss [] p (.leg n i j) := by unfold okp; rw [f2, fa]; rfl
          show (sound ss [] R && okp ss [] p (.leg n i k)) = true
          rw [this]; exact i1
      · intro x hx
        rcases List.mem_append.mp hx with hx | hx
        · exact i2 x (by simp [hx])
        · rw [List.mem_singleton.mp hx]; exact .inr (by rw [f2]; rfl)
      · rw [ppas_snoc, ppas_snoc, ← i3, ppas_snoc, pa, pl, pk, List.append_assoc]
        congr 1
        simp [pasP, pasL, Lg.i, Lg.j, Lg.n, stp_join hij hjk h3]
      · rw [psum_snoc, psum_snoc, ← i4, psum_snoc, pa, pl, pk, add3_assoc]
        congr 1
        show sum3 [mz (.leg n i k, s)] = add3 (sum3 [mz (.leg n i j, s)]) (sum3 [mz (.leg n j k, s)])
        rw [sum3_one, sum3_one, sum3_one]
        show meas s.rw i k = add3 (meas s.rw i j) (meas s.rw j k)
        unfold meas
        rw [stp_join hij hjk h3, List.map_append, sum3_app]
      · intro p hp
        simp at hp
        refine ⟨.leg n i k, by simp [Lg.n, Lg.i, Lg.j], ?_, ?_⟩
        · rw [← hp, f2, f1]
        · rw [← hp]; rfl
    · rename_i hg
      rw [show R ++ [a, l] = (R ++ [a]) ++ [l] by simp]
      refine ⟨?_, ?_, ?_, ?_, ?_⟩
      · rw [sound_snoc, i1]
        show (true && _) = true
        rw [show (R ++ [a]).getLast? = some a by simp]
        rcases List.eq_nil_or_concat xs with rfl | ⟨X, p, rfl⟩
        · simp [shr] at hA
        · rw [List.concat_eq_append] at hs i5
          obtain ⟨a', ha', k1, k2⟩ := i5 p (by simp)
          simp at ha'
          subst ha'
          have hk := hs.2
          rw [show (X ++ [p]).getLast? = some p by simp] at hk
          have : okp ss [] a l = okp ss [] p l := by unfold okp; rw [k1, k2]
          show (true && okp ss [] a l) = true
          rw [this]; simpa using hk
      · intro x hx
        rcases List.mem_append.mp hx with hx | hx
        · exact i2 x hx
        · rw [List.mem_singleton.mp hx]; exact hl2
      · rw [ppas_snoc (xs := R ++ [a]), ppas_snoc (xs := xs), i3]
      · rw [psum_snoc (xs := R ++ [a]), psum_snoc (xs := xs), i4]
      · intro p hp
        simp at hp
        exact ⟨l, by simp, by rw [hp], by rw [hp]⟩
end FL

namespace FL
open PySem PySem.Spec PyProof.Rows L2 L3
theorem eq_bl {a b : Bool} : eqD (.bl a) (.bl b) = some (a == b) := by
  have h1 : Bd (.bl a) 10 1 := bd_bl
  have h2 : Bd (.bl b) 10 1 := bd_bl
  rw [Bd.eq (h1.mono (Nat.le_refl _) (by decide)) (h2.mono (Nat.le_refl _) (by decide))]
  cases a <;> cases b <;> simp [L3.eqT, pyOf, PyData.eqv]
theorem goes_on_ok {a b : Lg} {μ : List SV} {Q X} (ha : a.Ok) (hb : b.Ok) (h : Q (.dat (.bl (gon a b))) μ) : Wf F_goes_on [.dat a.d, .dat b.d] μ Q X := by
  have e1 := lg_ride ha
  have e2 := lg_ride hb
  unfold F_goes_on fb_goes_on
  simp [wf_run, e1]
  cases a with
  | ride => simp [Lg.isR]; exact h
  | leg n i j =>
    simp [Lg.isR, e2]
    cases b with
    | ride => simp [Lg.isR]; exact h
    | leg m k l =>
      simp [Lg.isR, Lg.d, eq_bl]
      refine ⟨fun h1 => ⟨fun h2 => ?_, fun h2 => ?_⟩, fun h1 => ?_⟩
      · have : gon (.leg n i j) (.leg m k l) = (decide (i < j) == decide (k < l)) := by
          subst h1
          have hjk : j = k := by omega
          subst hjk
          show decide _ = _
          by_cases q1 : i < j <;> by_cases q2 : j < l <;> simp [q1, q2]
        rw [this] at h
        exact h
      · have : gon (.leg n i j) (.leg m k l) = false := decide_eq_false fun q => h2 (by omega)
        rw [this] at h; exact h
      · have : gon (.leg n i j) (.leg m k l) = false := decide_eq_false fun q => h1 q.1
        rw [this] at h; exact h
theorem shr_len {ls : List Lg} : (shr ls).length ≤ ls.length := by
  refine snoc_ind (P := fun ls => (shr ls).length ≤ ls.length) (by simp [shr]) (fun xs l ih => ?_) ls
  rw [shr_snoc]
  rcases List.eq_nil_or_concat (shr xs) with hA | ⟨R, a, hA⟩
  · rw [hA, sstep_nil]; simp
  · rw [List.concat_eq_append] at hA
    rw [hA] at ih ⊢
    rw [sstep_app]
    split <;> (simp at ih ⊢; omega)
theorem shortened_ok {ls : List Lg} {μ : List SV} {Q X} (hl : ls.length ≤ 80) (ho : ∀ l ∈ ls, l.Ok) (h : Q (.dat (.tup ((shr ls).map Lg.d))) μ) : Wf F_shortened [.dat (.tup (ls.map Lg.d))] μ Q X := by
  unfold F_shortened fb_shortened
  simp [wf_run]
  refine forL_ind (fun pre S => ∃ y2, S = ⟨[some (.dat (.tup (ls.map Lg.d))), some (lV (shr pre)), y2], μ⟩) ⟨none, by simp [shr]⟩ (fun pre l post S e hI => ?_) (fun S hI => ?_)
  · obtain ⟨y2, rfl⟩ := hI
    have hpre : ∀ a ∈ pre, a.Ok := fun a ha => ho a (by rw [e]; simp [ha])
    have hlo := ho l (by rw [e]; simp)
    have okA := (shr_gfree hpre).2
    have hpl : pre.length ≤ 80 := by rw [e] at hl; simp at hl; omega
    have al := shr_len (ls := pre)
    unfold lb_shortened_1
    rw [shr_snoc]
    rcases List.eq_nil_or_concat (shr pre) with hA | ⟨R, a, hA⟩
    · rw [hA, sstep_nil]
      simp
    · rw [List.concat_eq_append] at hA
      rw [hA] at okA al ⊢
      have ha := okA a (by simp)
      simp
      refine goes_on_ok ha hlo ?_
      simp
      rw [sstep_app]
      simp at al
      cases hg : gon a l with
      | true =>
        obtain ⟨n, i, j, k, rfl, rfl, h3⟩ := gon_leg hg
        have nn : (Lg.leg n j k).n = n := rfl
        have ii : (Lg.leg n i j).i = i := rfl
        have jj : (Lg.leg n j k).j = k := rfl
        simp [Lg.d, lV, nn, ii, jj]
      | false =>
        simp [lV]
        omega
  · obtain ⟨y2, rfl⟩ := hI
    simp
    exact h
end FL

namespace FL
open PySem PySem.Spec PyProof.Rows L2 L3
theorem behind_ok {ls : List Lg} {μ : List SV} {Q X} (hl : ls.length ≤ 80) (h : Q (.dat (.tup ((turnL ls).map Lg.d))) μ) : Wf F__law_behind [.dat (.tup (ls.map Lg.d))] μ Q X := by
  unfold F__law_behind fb__law_behind
  simp [wf_run]
  refine forL_ind (fun pre S => ∃ y2, S = ⟨[some (.dat (.tup (ls.map Lg.d))), some (.dat (.lst ((turnL pre).map Lg.d))), y2], μ⟩) ⟨none, by simp [turnL]⟩ (fun pre l post S e hI => ?_) (fun S hI => ?_)
  · obtain ⟨y2, rfl⟩ := hI
    have hpl : pre.length ≤ 80 := by rw [e] at hl; simp at hl; omega
    have tl := turnL_len (ls := pre)
    have te : turnL (pre ++ [l]) = l.turn :: turnL pre := by simp [turnL]
    unfold lb__law_behind_1
    rw [te]
    cases l with
    | ride =>
      simp [Lg.d, Lg.turn]
      omega
    | leg n i j =>
      simp [Lg.d, Lg.turn]
      omega
  · obtain ⟨y2, rfl⟩ := hI
    simp
    exact h
theorem could_ok {ls : List Lg} {μ : List SV} {Q X} (hg : gfree ls) (ho : ∀ l ∈ ls, l.Ok) (h : Q (.dat (.bl false)) μ) : Wf F__law_could_be_one [.dat (.tup (ls.map Lg.d))] μ Q X := by
  unfold F__law_could_be_one fb__law_could_be_one
  have e1 : ((ls.map Lg.d).dropLast.zip (ls.map Lg.d).tail).map pair2 = (ls.dropLast.zip ls.tail).map fun p => .tup [p.1.d, p.2.d] := by
    rw [← List.map_tail, List.dropLast_eq_take, ← List.map_take, List.zip_map, List.map_map, List.length_map, ← List.dropLast_eq_take]; rfl
  have hz : ∀ p ∈ ls.dropLast.zip ls.tail, gon p.1 p.2 = false := by
    clear e1 ho
    induction ls with
    | nil => simp
    | cons a r ih =>
      cases r with
      | nil => simp
      | cons b r =>
        intro p hp
        have hp : p ∈ (a, b) :: ((b :: r).dropLast.zip (b :: r).tail) := hp
        rcases List.mem_cons.mp hp with rfl | hp
        · exact hg.1
        · exact ih hg.2 p hp
  simp [wf_run, e1]
  rw [e1]
  refine forL_ind (fun pre S => ∃ y1 y2, S = ⟨[some (.dat (.tup (ls.map Lg.d))), y1, y2], μ⟩) ⟨none, none, by simp⟩ (fun pre p post S e hI => ?_) (fun S hI => ?_)
  · obtain ⟨y1, y2, rfl⟩ := hI
    obtain ⟨a, b⟩ := p
    have hm : (a, b) ∈ ls.dropLast.zip ls.tail := by rw [e]; simp
    have ha := ho a (List.mem_of_mem_dropLast' (List.of_mem_zip hm).1)
    have hb := ho b (List.mem_of_mem_tail (List.of_mem_zip hm).2)
    have hf := hz _ hm
    unfold lb__law_could_be_one_1
    cases a with
    | ride => simp [Lg.d]
    | leg n i j =>
      cases b with
      | ride => simp [Lg.d]
      | leg m k l =>
        obtain ⟨a1, a2, a3, a4⟩ := ha
        obtain ⟨b1, b2, b3, b4⟩ := hb
        have hf : decide (n = m ∧ j = k ∧ (i < j ↔ k < l)) = false := hf
        simp only [decide_eq_false_iff_not] at hf
        simp [Lg.d]
        refine fun h1 h2 => ⟨.inl ⟨by omega, by omega⟩, fun h3 => ?_⟩
        exfalso
        apply hf
        refine ⟨h1, by omega, ?_⟩
        rcases Nat.lt_or_gt_of_ne a4 with q1 | q1 <;> rcases Nat.lt_or_gt_of_ne b4 with q2 | q2
        · omega
        · have := Int.mul_neg_of_pos_of_neg (a := (j : Int) - i) (b := (l : Int) - k) (by omega) (by omega)
          omega
        · have := Int.mul_neg_of_neg_of_pos (a := (j : Int) - i) (b := (l : Int) - k) (by omega) (by omega)
          omega
        · omega
  · obtain ⟨y1, y2, rfl⟩ := hI
    simp
    exact h
/-! ### one by one, cut -/
theorem unit_ok {l : Lg} (h : l.Ok) : ∀ u ∈ ob1 l, Bd u.d 200 1 := by
  cases l with
  | ride => intro u hu; simp [ob1] at hu; rw [hu]; exact lg_bd (l := .ride) trivial
  | leg n i j =>
    obtain ⟨h1, h2, h3, h4⟩ := h
    intro u hu
    rw [ob1_leg] at hu
    have key : ∀ x y : Nat, x ≤ 20 → y ≤ 20 → Bd (Lg.leg n x y).d 200 1 := fun x y hx hy => bd_tup (w := 41) (p := 0) (n := 3) (bd_three (bd_wd h1 (by decide)) (bd_int (by omega) (by decide)) (bd_int (by omega) (by decide))) (by simp)
    split at hu
    · obtain ⟨k, hk, rfl⟩ := List.mem_map.mp hu
      rw [List.mem_range] at hk
      exact key _ _ (by omega) (by omega)
    · obtain ⟨k, hk, rfl⟩ := List.mem_map.mp hu
      rw [List.mem_range] at hk
      exact key _ _ (by omega) (by omega)
theorem ob1_len {l : Lg} (h : l.Ok) : (ob1 l).length ≤ 8 := by
  cases l with
  | ride => simp [ob1]
  | leg n i j =>
    obtain ⟨h1, h2, h3, h4⟩ := h
    rw [ob1_leg]
    split <;> simp <;> omega
theorem flat_len {ls : List Lg} (ho : ∀ l ∈ ls, l.Ok) : (flat ls).length ≤ 8 * ls.length := by
  induction ls with
  | nil => simp [flat]
  | cons l ls ih =>
    have := ih fun x hx => ho x (by simp [hx])
    have := ob1_len (ho l (by simp))
    rw [show l :: ls = [l] ++ ls from rfl, flat_app, flat_one, List.length_append, List.length_append]
    simp; omega
theorem by_one_ok {ls : List Lg} {μ : List SV} {Q X} (hl : ls.length ≤ 80) (ho : ∀ l ∈ ls, l.Ok) (h : Q (lV (flat ls)) μ) : Wf F__law_one_by_one_ab0 [.dat (.tup (ls.map Lg.d))] μ Q X := by
  unfold F__law_one_by_one_ab0 fb__law_one_by_one_ab0
  simp [wf_run]
  refine forL_ind (fun pre S => ∃ y2 y3, S = ⟨[some (.dat (.tup (ls.map Lg.d))), some (lV (flat pre)), y2, y3, none], μ⟩) ⟨none, none, by simp [flat]⟩ (fun pre l post S e hI => ?_) (fun S hI => ?_)
  · obtain ⟨y2, y3, rfl⟩ := hI
    have hlo := ho l (by rw [e]; simp)
    have hpl : pre.length ≤ 80 := by rw [e] at hl; simp at hl; omega
    have fl := flat_len (ls := pre) fun a ha => ho a (by rw [e]; simp [ha])
    generalize hF : flat pre = F at fl
    have fe : flat (pre ++ [l]) = F ++ ob1 l := by rw [flat_app, flat_one, hF]
    rw [fe]
    unfold lb__law_one_by_one_ab0_1
    cases l with
    | ride =>
      simp [Lg.d, ob1]
      omega
    | leg n i j =>
      obtain ⟨h1, h2, h3, h4⟩ := hlo
      simp [Lg.d]
      refine ⟨fun hlt => ⟨⟨small62_of (by omega) (by omega), small62_of (by omega) (by omega)⟩, ?_⟩, fun hge => ⟨⟨small62_of (by omega) (by omega), small62_of (by omega) (by omega)⟩, ?_⟩⟩
      · have wd : ob1 (.leg n i j) = (List.range (j - i)).map fun k => .leg n (i + k) (i + k + 1) := by rw [ob1_leg, if_pos hlt]
        unfold rangeL
        refine ctL_map (fun k => .dat (Lg.leg n (i + k) (i + k + 1)).d) (by simp; omega) (fun k hk => ?_) ?_
        · simp [Lg.d]
        · rw [wd]
          simp
          omega
      · have wd : ob1 (.leg n i j) = (List.range (i - j)).map fun k => .leg n (i - k) (i - k - 1) := by rw [ob1_leg, if_neg (by omega)]
        unfold rangeL
        refine ctL_map (fun k => .dat (Lg.leg n (i - k) (i - k - 1)).d) (by simp; omega) (fun k hk => ?_) ?_
        · simp [Lg.d]
          rw [List.mem_range] at hk
          omega
        · rw [wd]
          simp
          omega
  · obtain ⟨y2, y3, rfl⟩ := hI
    simp
    exact h
end FL

namespace FL
open PySem PySem.Spec PyProof.Rows L2 L3
def CtI (d1 : D) (m B : Int) (i : Nat) (S : Sto) : Prop := ∃ (ks : List Lg) (x' : SV) (y4 y5 y6 y7 : Option SV), S = ⟨[some (.cell 0), some (.dat d1), some (.dat (.int m)), some (.dat (.lst (ks.map Lg.d))), y4, y5, y6, y7], [x']⟩ ∧ ks.length ≤ 60 ∧ ks ≠ [] ∧ (∀ l ∈ ks, l.Ok) ∧ Dr (B + 2 * (i : Int)) x'
theorem cut_ok {B m : Int} {x : SV} {ls : List Lg} {Q X} (hx : Dr B x) (hB : B < 2 ^ 38) (hm : 0 ≤ m ∧ m ≤ 100) (h0 : ls ≠ []) (hl : ls.length ≤ 60) (ho : ∀ l ∈ ls, l.Ok) (h : ∀ (ks : List Lg) x', ks.length ≤ 60 → ks ≠ [] → (∀ l ∈ ks, l.Ok) → Dr (B + 1000) x' → Q (.dat (.tup (ks.map Lg.d))) [x']) :
    Wf F__law_cut [.cell 0, .dat (.tup (ls.map Lg.d)), .dat (.int m)] [x] Q X := by
  unfold F__law_cut fb__law_cut
  simp [wf_run]
  refine ⟨small62_of (by omega) (by omega), ?_⟩
  refine forF_ind (CtI (.tup (ls.map Lg.d)) m B) ⟨ls, x, none, none, none, none, by simp, hl, h0, ho, by simpa using hx⟩ (fun i d S hd hI => ?_) (fun S hI => ?_)
  · obtain ⟨ks, x', y4, y5, y6, y7, rfl, k1, k2, k3, d1⟩ := hI
    have hi : i < 100 := by have := (List.getElem?_eq_some_iff.mp hd).1; simp at this; omega
    have kl : 0 < ks.length := List.length_pos_iff.mpr k2
    unfold lb__law_cut_1
    simp
    refine next_ok d1 (by omega) (by omega) fun r x1 a1 b1 d2 => ?_
    obtain ⟨t, rfl⟩ := Int.eq_ofNat_of_zero_le a1
    obtain ⟨l, hl⟩ : ∃ l, ks[t]? = some l := ⟨_, List.getElem?_eq_getElem (by omega)⟩
    have eat : atI ks (t : Int) = some l := by rw [atI_in (by omega) (by omega)]; simpa using hl
    have lo := k3 l (List.mem_of_getElem? hl)
    simp [eat]
    have stay : ∀ y4 y5 y6 y7, CtI (.tup (ls.map Lg.d)) m B (i + 1) ⟨[some (.cell 0), some (.dat (.tup (ls.map Lg.d))), some (.dat (.int m)), some (.dat (.lst (ks.map Lg.d))), y4, y5, y6, y7], [x1]⟩ := fun y4 y5 y6 y7 => ⟨ks, x1, y4, y5, y6, y7, rfl, k1, k2, k3, d2.up (by omega)⟩
    cases l with
    | ride =>
      simp [Lg.d]
      exact stay _ _ _ _
    | leg n p q =>
      obtain ⟨l1, l2, l3, l4⟩ := lo
      have hab : (if (p : Int) - q < 0 then -((p : Int) - q) else (p : Int) - q) = ((max p q - min p q : Nat) : Int) := by split <;> omega
      have hmn : (if q < p then (q : Int) else p) = ((min p q : Nat) : Int) := by split <;> omega
      simp [Lg.d, hab, hmn]
      refine ⟨fun hd1 => ⟨fun hk => ?_, fun _ => stay _ _ _ _⟩, fun _ => stay _ _ _ _⟩
      refine next_ok d2 (by omega) (by omega) fun r2 x2 a2 b2 d3 => ?_
      obtain ⟨w, rfl⟩ := Int.eq_ofNat_of_zero_le a2
      obtain ⟨K1, hK1⟩ : ∃ K1, K1 = ks.take t := ⟨_, rfl⟩
      obtain ⟨K2, hK2⟩ : ∃ K2, K2 = ks.drop (t + 1) := ⟨_, rfl⟩
      have c1 : L3.cutD (ks.map Lg.d) none (some (t : Int)) = K1.map Lg.d := by rw [cut_head (n := t), hK1, List.map_take]
      have c2 : L3.cutD (ks.map Lg.d) (some ((t : Int) + 1)) none = K2.map Lg.d := by rw [show (t : Int) + 1 = ((t + 1 : Nat) : Int) by omega, cut_from (n := t + 1), hK2, List.map_drop]
      have q1 : K1.length = t := by rw [hK1, List.length_take]; omega
      have q2 : K2.length + t + 1 = ks.length := by rw [hK2, List.length_drop]; omega
      have o1 : ∀ l ∈ K1, l.Ok := fun l hl => k3 l (List.mem_of_mem_take (hK1 ▸ hl))
      have o2 : ∀ l ∈ K2, l.Ok := fun l hl => k3 l (List.mem_of_mem_drop (hK2 ▸ hl))
      simp [c1, c2]
      refine ⟨by omega, by omega, K1 ++ [.leg n p (min p q + 1 + w), .leg n (min p q + 1 + w) q] ++ K2, x2, some (.dat d), some (.dat (.int t)), some (.dat (.tup [.str n, .int p, .int q])), some (.dat (.int (min p q + 1 + w : Nat))), by simp [Lg.d], by simp; omega, by simp, fun l hl => ?_, d3.up (by omega)⟩
      simp only [List.mem_append, List.mem_cons, List.not_mem_nil, or_false] at hl
      rcases hl with (hl | rfl | rfl) | hl
      · exact o1 l hl
      · exact ⟨l1, l2, by omega, by omega⟩
      · exact ⟨l1, by omega, l3, by omega⟩
      · exact o2 l hl
  · obtain ⟨ks, x', y4, y5, y6, y7, rfl, k1, k2, k3, d1⟩ := hI
    simp at d1 ⊢
    exact h ks x' k1 k2 k3 (d1.up (by omega))
end FL

namespace FL
open PySem PySem.Spec PyProof.Rows L2 L3
theorem closed_ok {a b : List Str} {w : Str} (hb : ∀ n ∈ a, Wd n) (hl : a.length ≤ 6) (hw : Wd w) : ∀ c ∈ [[], a, a ++ [w], a ++ a], Cl (some c) := by
  intro c hc
  simp only [List.mem_cons, List.not_mem_nil, or_false] at hc
  rcases hc with rfl | rfl | rfl | rfl
  · exact ⟨by simp [shut], by simp [shut]⟩
  · exact ⟨by simp [shut]; omega, by simpa [shut] using hb⟩
  · refine ⟨by simp [shut]; omega, fun n hn => ?_⟩
    rcases List.mem_append.mp hn with hn | hn
    · exact hb n hn
    · rw [List.mem_singleton.mp hn]; exact hw
  · refine ⟨by simp [shut]; omega, fun n hn => ?_⟩
    rcases List.mem_append.mp hn with hn | hn <;> exact hb n hn
theorem law_ok {ns : List Int} (hl : ns.length ≤ 63) : Wf F_law_ee8 [.dat (.kl (ns.map D.int))] [] (fun x _ => x = .dat (.bl true)) (fun _ _ => False) := by
  unfold F_law_ee8 fb_law_ee8
  simp [wf_run]
  refine begin_ok hl fun cs c1 c2 => ?_
  have d0 : Dr 0 (.node (.dK drawKs) [.dat (.lst (cs.map D.int)), .dat (.int 0), .dat (.int 0), .dat (.int 0)]) := ⟨cs, 0, 0, 0, rfl, c1, c2, by omega, by omega, by omega, by omega, by omega⟩
  simp
  generalize (SV.node (.dK drawKs) [.dat (.lst (cs.map D.int)), .dat (.int 0), .dat (.int 0), .dat (.int 0)]) = x0 at d0 ⊢
  refine book_ok d0 (by omega) (by omega) fun ss o x1 hb h1 d1 => ?_
  simp
  refine other_book_ok d1 (by omega) hb.toBk fun ts x2 hbt d2 => ?_
  simp
  have hbt : BkO ts [.tup [], .tup [], .tup []] := ⟨hbt, by simp, by
    have e0 : Bd (.tup []) 5000 5 := bd_tup (w := 0) (p := 0) (n := 0) (by simp) (by simp)
    exact bd_three e0 e0 e0⟩
  refine ⟨small62_of (by omega) (by omega), ?_⟩
  refine forF_ind (fun i S => ∃ x' y4 y5 y6 y7 y8, S = ⟨[some (.dat (.kl (ns.map D.int))), some (.cell 0), some (.dat (bkD ss o)), some (.dat (bkD ts [.tup [], .tup [], .tup []])), y4, y5, y6, y7, y8], [x']⟩ ∧ Dr (20000 + 200000 * (i : Int)) x') ⟨x2, none, none, none, none, none, by simp, d2.up (by omega)⟩ (fun i d S hd hI => ?_) (fun S hI => ?_)
  · obtain ⟨x', y4, y5, y6, y7, y8, rfl, dd⟩ := hI
    have hi : i < 4 := by have := (List.getElem?_eq_some_iff.mp hd).1; simpa using this
    simp
    unfold lb_law_ee8_2
    simp
    refine next_ok dd (by omega) (by decide) fun r x3 a3 b3 d3 => ?_
    simp
    refine legs_ok d3 (by omega) hb.toBk h1 (by omega) fun ls x4 l1 l2 _ d4 => ?_
    simp
    refine ctL_ind (fun pre acc μ => ∃ cl x', acc = sL cl ∧ μ = [x'] ∧ (∀ n ∈ cl, Wd n) ∧ cl.length ≤ pre.length ∧ Dr (20000 + 200000 * (i : Int) + 120000 + pre.length) x') (Nat.le_trans hb.few (by decide)) ⟨[], x4, rfl, rfl, by simp, by simp, d4.up (by simp; omega)⟩ (fun pre s post acc μ e hI => ?_) (fun acc μ hI => ?_)
    · obtain ⟨cl, x', rfl, rfl, q1, q2, dd⟩ := hI
      have hpl : pre.length ≤ 6 := by have := hb.few; rw [e] at this; simp at this; omega
      have ok := hb.ok s (by rw [e]; simp)
      simp [Sc.d]
      refine next_ok dd (by omega) (by decide) fun r x'' a b d => ?_
      simp
      refine ⟨fun h0 => ?_, fun h0 => ?_⟩
      · refine ⟨cl ++ [s.n], by simp, fun w hw => ?_, by simp; omega, d.up (by omega)⟩
        rcases List.mem_append.mp hw with hw | hw
        · exact q1 w hw
        · rw [List.mem_singleton.mp hw]; exact ok.name
      · exact ⟨cl, rfl, q1, by omega, d.up (by omega)⟩
    · obtain ⟨cl, x5, rfl, rfl, q1, q2, d5⟩ := hI
      have hcl : cl.length ≤ 6 := Nat.le_trans q2 hb.few
      have hss := hb.few
      simp
      refine word1_ok d5 (by omega) fun w x6 hw d6 => ?_
      simp
      refine ⟨by omega, by omega, ?_⟩
      refine next_ok d6 (by omega) (by decide) fun r7 x7 a7 b7 d7 => ?_
      simp
      refine ob_ixN a7 (by simpa using b7) fun j hj => ?_
      obtain ⟨c, hc, ej⟩ : ∃ c, Cl (some c) ∧ ([.dat (.tup []), .dat (.tup (cl.map D.str)), .dat (.tup (cl.map D.str ++ [.str w])), .dat (.tup (cl.map D.str ++ cl.map D.str))] : List SV)[j]? = some (.dat (tS c)) := by
        have cok := closed_ok (b := []) q1 hcl hw
        match j, hj with
        | 0, _ => exact ⟨[], cok _ (by simp), rfl⟩
        | 1, _ => exact ⟨cl, cok _ (by simp), rfl⟩
        | 2, _ => exact ⟨cl ++ [w], cok _ (by simp), by simp⟩
        | 3, _ => exact ⟨cl ++ cl, cok _ (by simp), by simp⟩
      simp [ej]
      refine forF_ind (fun k S => ∃ x' y7 y8, S = ⟨[some (.dat (.kl (ns.map D.int))), some (.cell 0), some (.dat (bkD ss o)), some (.dat (bkD ts [.tup [], .tup [], .tup []])), some (.dat d), some (.dat (.tup (ls.map Lg.d))), some (.dat (tS c)), y7, y8], [x']⟩ ∧ Dr (20000 + 200000 * (i : Int) + 150000 + 2 * (k : Int)) x') ⟨x7, _, none, rfl, d7.up (by omega)⟩ (fun k d' S hd' hI => ?_) (fun S hI => ?_)
      · obtain ⟨x', y7, y8, rfl, dd⟩ := hI
        obtain ⟨us, o', rfl, hu⟩ : ∃ us o', d' = bkD us o' ∧ BkO us o' := by
          have := List.mem_of_getElem? hd'
          simp only [List.mem_cons, List.not_mem_nil, or_false] at this
          rcases this with rfl | rfl | rfl
          · exact ⟨_, _, rfl, hb⟩
          · exact ⟨_, _, rfl, hbt⟩
          · exact ⟨_, _, rfl, hb⟩
        have hk : k < 3 := by have := (List.getElem?_eq_some_iff.mp hd').1; simpa using this
        unfold lb_law_ee8_1
        simp
        refine right_ok dd (by omega) hu (by omega) l2 hc fun x'' w => ?_
        simp
        exact w.up (by omega)
      · obtain ⟨x', y7, y8, rfl, dd⟩ := hI
        simp at dd ⊢
        exact dd.up (by omega)
  · obtain ⟨x', y4, y5, y6, y7, y8, rfl, dd⟩ := hI
    simp
end FL

namespace FL
open PySem PySem.Spec PyProof.Rows L2 L3
theorem lg_len {l : Lg} : lenD [l.d] = some (.int (if l.isR then 1 else 3)) := by cases l <;> rfl
theorem rides_sound {ss : List Sc} {c : List Str} : ∀ {ls : List Lg}, (∀ l ∈ ls, l.isR = true) → sound ss c ls = true
  | [], _ => rfl
  | [a], _ => rfl
  | a :: b :: r, h => by
    have e : fnd ss c a = none := by
      have := h a (by simp)
      cases a with
      | ride => rfl
      | leg => cases this
    show (okp ss c a b && sound ss c (b :: r)) = true
    rw [rides_sound fun l hl => h l (by simp [hl])]
    unfold okp; rw [e]; rfl
/-- all legs count just where as many count as there are -/
theorem all_cts {ss : List Sc} {ls : List Lg} (e : (cnt ss [] ls).length = (ls.filter fun l => !l.isR).length) : sound ss [] ls = true ∧ ∀ l ∈ ls, cts ss l := by
  unfold cnt at e
  have hs : sound ss [] ls = true := by
    cases hs : sound ss [] ls with
    | true => rfl
    | false =>
      rw [hs] at e
      have e0 : ls.filter (fun l => !l.isR) = [] := by
        apply List.eq_nil_of_length_eq_zero
        rw [← e]; simp
      rw [List.filter_eq_nil_iff] at e0
      rw [rides_sound fun l hl => by have := e0 l hl; simpa using this] at hs
      cases hs
  refine ⟨hs, ?_⟩
  rw [hs] at e
  simp only [Bool.true_and] at e
  clear hs
  have sub : ∀ l : Lg, (fnd ss [] l).isSome = true → l.isR = false := fun l h => by cases l with
    | ride => cases h
    | leg => rfl
  have le : ∀ ls : List Lg, (ls.filter fun l => (fnd ss [] l).isSome).length ≤ (ls.filter fun l => !l.isR).length := by
    intro ls
    induction ls with
    | nil => simp
    | cons l ls ih =>
      rw [List.filter_cons, List.filter_cons]
      cases e1 : (fnd ss [] l).isSome with
      | true => rw [sub l e1]; simpa using ih
      | false => cases l.isR <;> simp <;> omega
  induction ls with
  | nil => simp
  | cons l ls ih =>
    rw [List.filter_cons, List.filter_cons] at e
    cases e1 : (fnd ss [] l).isSome with
    | true =>
      rw [e1, sub l e1] at e
      simp at e
      intro x hx
      rcases List.mem_cons.mp hx with rfl | hx
      · exact .inr e1
      · exact ih e x hx
    | false =>
      rw [e1] at e
      cases e2 : l.isR with
      | true =>
        rw [e2] at e
        simp at e
        intro x hx
        rcases List.mem_cons.mp hx with rfl | hx
        · exact .inl e2
        · exact ih e x hx
      | false =>
        rw [e2] at e
        simp at e
        have := le ls
        omega
theorem flat_bd {ls : List Lg} (hl : ls.length ≤ 80) (ho : ∀ l ∈ ls, l.Ok) : Bd (.lst ((flat ls).map Lg.d)) (2 ^ 20) 64 :=
  bd_lst (w := 200) (p := 1) (n := 640) (bd_map fun u hu => by
    obtain ⟨l, hl, hul⟩ := List.mem_flatMap.mp hu
    exact unit_ok (ho l hl) u hul) (by rw [List.length_map]; have := flat_len ho; omega)
theorem right14_ok {ss : List Sc} {o : List D} {ls : List Lg} {μ : List SV} {Q X} (hb : BkO ss o) (hl : ls.length ≤ 60) (ho : ∀ l ∈ ls, l.Ok) (h : Q (.dat (.bl true)) μ) :
    Wf F__law_right_d84 [.dat (bkD ss o), .dat (.tup (ls.map Lg.d))] μ Q X := by
  have hl8 : ls.length ≤ 80 := by omega
  have hn : Cl none := ⟨by simp [shut], by simp [shut]⟩
  have s0 : shut none = [] := rfl
  obtain ⟨g1, o1⟩ := shr_gfree ho
  have sl := shr_len (ls := ls)
  have sl8 : (shr ls).length ≤ 80 := by omega
  have o2 := turnL_ok ho
  have tl8 : (turnL ls).length ≤ 80 := by rw [turnL_len]; omega
  have r1 : Bd (.lst [bkD ss o, .tup (ls.map Lg.d)]) (2 ^ 20) 64 := bd_lst (w := 200000) (p := 6) (n := 2) (bd_two (hb.bd.mono (by decide) (by decide)) ((lgs_bd hl8 ho).2.mono (by decide) (by decide))) (by simp)
  have q1 := r1.repr
  have lr : ∀ xs : List Lg, xs.length ≤ 80 → (∀ l ∈ xs, l.Ok) → reprD [.tup (xs.map Lg.d)] = some (.str (pyOf (.tup (xs.map Lg.d))).shown) := fun xs h1 h2 => ((lgs_bd h1 h2).2.mono (w' := 2 ^ 20) (p' := 64) (by decide) (by decide)).repr
  have qt := lr _ tl8 o2
  have ql := lr _ hl8 ho
  have qs := lr _ sl8 o1
  have qb := lr (turnL (shr ls)) (by rw [turnL_len]; omega) (turnL_ok o1)
  have qf := (flat_bd hl8 ho).repr
  unfold F__law_right_d84 fb__law_right_d84
  simp [wf_run, q1]
  refine turned_ok hl8 ho ?_
  simp
  refine shortened_ok hl8 ho ?_
  simp [qt]
  refine behind_ok hl8 ?_
  simp [qt]
  refine turned_ok tl8 o2 ?_
  rw [turnL_turnL]
  simp [ql]
  refine could_ok g1 o1 ?_
  simp
  refine by_one_ok sl8 o1 ?_
  rw [flat_shr ho]
  simp [qf]
  refine by_one_ok hl8 ho ?_
  simp [qf]
  refine shortened_ok hl8 ho ?_
  simp [qs]
  refine shortened_ok tl8 o2 ?_
  rw [shr_turn ho]
  simp [qb]
  refine behind_ok sl8 ?_
  simp [qb]
  refine shortened_ok sl8 o1 ?_
  rw [shr_free g1]
  simp [qs]
  refine counted_ok2 (c := none) hb.toBk hl8 ho hn ?_
  simp [s0]
  refine ctL_filter (fun l => !l.isR) (fun l => .dat l.d) (by omega) (fun l hl => ?_) ?_
  · cases l <;> simp [Lg.d, Lg.isR]
  · simp
    refine ⟨fun he => ?_, fun _ => by simp [q1]; exact h⟩
    obtain ⟨k1, k2⟩ := all_cts (ss := ss) (ls := ls) (by omega)
    obtain ⟨w1, w2, w3, w4, _⟩ := shr_keeps hb.nd (fun l hl => ⟨ho l hl, k2 l hl⟩) k1
    have p1 : pas ss [] (shr ls) = pas ss [] ls := by
      unfold pas prs
      rw [w1, k1]
      exact w3
    have p2 : sms ss [] (shr ls) = sms ss [] ls := by
      unfold sms prs
      rw [w1, k1]
      exact w4
    have qp := ((pas_bd (c := []) hb.toBk hl8 ho).mono (w' := 2 ^ 20) (p' := 64) (by decide) (by decide)).repr
    have qe := ((sms_bd (c := []) hb.toBk hl8 ho).2.mono (w' := 2 ^ 20) (p' := 64) (by decide) (by decide)).self
    refine passed_ok (c := none) hb.toBk sl8 o1 hn ?_
    rw [s0, p1]
    simp [qp]
    refine passed_ok (c := none) hb.toBk hl8 ho hn ?_
    rw [s0]
    simp [qp]
    refine sums_of_ok (c := none) hb.toBk sl8 o1 hn ?_
    rw [s0, p2]
    simp
    refine sums_of_ok (c := none) hb.toBk hl8 ho hn ?_
    rw [s0]
    simp [qe, q1]
    exact h
end FL

namespace FL
open PySem PySem.Spec PyProof.Rows L2 L3
theorem law14_ok {ns : List Int} (hl : ns.length ≤ 63) : Wf F_law_80f [.dat (.kl (ns.map D.int))] [] (fun x _ => x = .dat (.bl true)) (fun _ _ => False) := by
  unfold F_law_80f fb_law_80f
  simp [wf_run]
  refine begin_ok hl fun cs c1 c2 => ?_
  have d0 : Dr 0 (.node (.dK drawKs) [.dat (.lst (cs.map D.int)), .dat (.int 0), .dat (.int 0), .dat (.int 0)]) := ⟨cs, 0, 0, 0, rfl, c1, c2, by omega, by omega, by omega, by omega, by omega⟩
  simp
  generalize (SV.node (.dK drawKs) [.dat (.lst (cs.map D.int)), .dat (.int 0), .dat (.int 0), .dat (.int 0)]) = x0 at d0 ⊢
  refine book_ok d0 (by omega) (by omega) fun ss o x1 hb h1 d1 => ?_
  simp
  refine ⟨small62_of (by omega) (by omega), ?_⟩
  refine forF_ind (fun i S => ∃ x' y3 y4, S = ⟨[some (.dat (.kl (ns.map D.int))), some (.cell 0), some (.dat (bkD ss o)), y3, y4], [x']⟩ ∧ Dr (20000 + 200000 * (i : Int)) x') ⟨x1, none, none, by simp, d1.up (by omega)⟩ (fun i d S hd hI => ?_) (fun S hI => ?_)
  · obtain ⟨x', y3, y4, rfl, dd⟩ := hI
    have hi : i < 2 := by have := (List.getElem?_eq_some_iff.mp hd).1; simpa using this
    simp
    unfold lb_law_80f_1
    simp
    refine next_ok dd (by omega) (by decide) fun r1 x2 a2 b2 d2 => ?_
    simp
    refine ob_ixN a2 (by simpa using b2) fun j hj => ?_
    obtain ⟨many, hmany, ej⟩ : ∃ m : Int, (4 ≤ m ∧ m ≤ 12) ∧ ([.dat (.int 4), .dat (.int 12), .dat (.int 12)] : List SV)[j]? = some (.dat (.int m)) := by
      match j, hj with
      | 0, _ => exact ⟨4, by omega, rfl⟩
      | 1, _ => exact ⟨12, by omega, rfl⟩
      | 2, _ => exact ⟨12, by omega, rfl⟩
    simp [ej]
    refine next_ok d2 (by omega) (by omega) fun r x3 a3 b3 d3 => ?_
    simp
    refine legs_ok d3 (by omega) hb.toBk h1 (by omega) fun ls x4 l1 l2 l0 d4 => ?_
    simp
    refine next_ok d4 (by omega) (by decide) fun r5 x5 a5 b5 d5 => ?_
    simp
    refine ob_ixN a5 (by simpa using b5) fun j2 hj2 => ?_
    obtain ⟨cuts, hcuts, ej2⟩ : ∃ m : Int, (6 ≤ m ∧ m ≤ 60) ∧ ([.dat (.int 6), .dat (.int 24), .dat (.int 60)] : List SV)[j2]? = some (.dat (.int m)) := by
      match j2, hj2 with
      | 0, _ => exact ⟨6, by omega, rfl⟩
      | 1, _ => exact ⟨24, by omega, rfl⟩
      | 2, _ => exact ⟨60, by omega, rfl⟩
    simp [ej2]
    refine next_ok d5 (by omega) (by omega) fun r6 x6 a6 b6 d6 => ?_
    simp
    refine cut_ok d6 (by omega) (by omega) l0 (by omega) l2 fun ks x7 k1 k0 k2 d7 => ?_
    simp
    refine right14_ok hb k1 k2 ?_
    simp
    refine behind_ok (by omega) ?_
    simp
    refine right14_ok hb (by rw [turnL_len]; exact k1) (turnL_ok k2) ?_
    simp
    exact d7.up (by omega)
  · obtain ⟨x', y3, y4, rfl, dd⟩ := hI
    simp
end FL

namespace GK14
open PySem PySem.Spec PyProof.Rows L2 L3
theorem law_true {ns : List Int} (hl : ns.length ≤ 63) (_ : ∀ i ∈ ns, Builtin.Int.intBits i ≤ 1048576) : ∃ μ, FL.F_law_80f [.dat (.kl (ns.map D.int))] [] = some (.ok (.dat (.bl true)) μ) := by
  obtain ⟨r, e, q⟩ := FL.law14_ok hl
  cases r with
  | ok x μ =>
    have q : x = .dat (.bl true) := q
    subst q
    exact ⟨μ, e⟩
  | exc e S => exact q.elim
end GK14

open PySem PySem.W PyProof.Rows
set_option maxHeartbeats 0 in
theorem PySem.Challenge.cw_pathbook_k14_legs_turned_and_shortened_holds : PySem.Challenge.rw_pathbook_k14_legs_turned_and_shortened.Holds := by
  w_on; o_law; k_head; (case hw => w_witness2)
  k_fill
  refine L3.end_walk (l := PySem.Challenge.rw_pathbook_k14_legs_turned_and_shortened) (n := 63) (k := 6) (x := "_law_script") (f := FL.F_law_80f) rfl (by decide) rfl ⟨rfl, by decide, by decide⟩ (fun w h Y => PySem.W.kIn_of Y) ?F (fun ns hl hb => GK14.law_true hl hb)
  case F =>
    intro w mg fa h KX G hmg
    refine' GK14.all_mk KX G hmg ?a0 ?l0 ?c0 ?k0 ?a1 ?l1 ?c1 ?k1 ?a2 ?l2 ?c2 ?k2 ?a3 ?l3 ?c3 ?k3 ?a4 ?l4 ?c4 ?k4 ?a5 ?l5 ?c5 ?k5 ?a6 ?l6 ?c6 ?k6 ?a7 ?l7 ?c7 ?k7 ?d8 ?a8 ?l8 ?c8 ?k8 ?d9 ?a9 ?l9 ?c9 ?k9 ?d10 ?a10 ?l10 ?c10 ?k10 ?a11 ?l11 ?c11 ?k11 ?a12 ?l12 ?c12 ?k12 ?a13 ?l13 ?c13 ?k13 ?a14 ?l14 ?c14 ?k14 ?a15 ?l15 ?c15 ?k15 ?a16 ?l16 ?c16 ?k16 ?a17 ?l17 ?c17 ?k17 ?a18 ?l18 ?c18 ?k18 ?a19 ?l19 ?c19 ?k19 ?a20 ?l20 ?c20 ?k20 ?a21 ?l21 ?c21 ?k21 ?a22 ?l22 ?c22 ?k22 ?a23 ?l23 ?c23 ?k23 ?a24 ?l24 ?c24 ?k24 ?a25 ?l25 ?c25 ?k25 ?a26 ?l26 ?c26 ?k26 ?a27 ?l27 ?c27 ?k27 ?ha_RIDE ?hb_RIDE ?b_range ?b_max ?b_len ?b_tuple ?b_reversed ?b_dict ?b_sorted ?b_any ?b_enumerate ?b_list ?b_abs ?b_min ?b_zip ?b_repr ?b_isinstance
    (case a0 => k_is); (case l0 => k_is); (case c0 => k_is); (case k0 => k_is); (case a1 => k_is); (case l1 => k_is); (case c1 => k_is); (case k1 => k_is); (case a2 => k_is); (case l2 => k_is); (case c2 => k_is); (case k2 => k_is); (case a3 => k_is); (case l3 => k_is); (case c3 => k_is); (case k3 => k_is); (case a4 => k_is); (case l4 => k_is); (case c4 => k_is); (case k4 => k_is); (case a5 => k_is); (case l5 => k_is); (case c5 => k_is); (case k5 => k_is); (case a6 => k_is); (case l6 => k_is); (case c6 => k_is); (case k6 => k_is); (case a7 => k_is); (case l7 => k_is); (case c7 => k_is); (case k7 => k_is); (case a8 => k_is); (case l8 => k_is); (case c8 => k_is); (case k8 => k_is); (case a9 => k_is); (case l9 => k_is); (case c9 => k_is); (case k9 => k_is); (case a10 => k_is); (case l10 => k_is); (case c10 => k_is); (case k10 => k_is); (case a11 => k_is); (case l11 => k_is); (case c11 => k_is); (case k11 => k_is); (case a12 => k_is); (case l12 => k_is); (case c12 => k_is); (case k12 => k_is); (case a13 => k_is); (case l13 => k_is); (case c13 => k_is); (case k13 => k_is); (case a14 => k_is); (case l14 => k_is); (case c14 => k_is); (case k14 => k_is); (case a15 => k_is); (case l15 => k_is); (case c15 => k_is); (case k15 => k_is); (case a16 => k_is); (case l16 => k_is); (case c16 => k_is); (case k16 => k_is); (case a17 => k_is); (case l17 => k_is); (case c17 => k_is); (case k17 => k_is); (case a18 => k_is); (case l18 => k_is); (case c18 => k_is); (case k18 => k_is); (case a19 => k_is); (case l19 => k_is); (case c19 => k_is); (case k19 => k_is); (case a20 => k_is); (case l20 => k_is); (case c20 => k_is); (case k20 => k_is); (case a21 => k_is); (case l21 => k_is); (case c21 => k_is); (case k21 => k_is); (case a22 => k_is); (case l22 => k_is); (case c22 => k_is); (case k22 => k_is); (case a23 => k_is); (case l23 => k_is); (case c23 => k_is); (case k23 => k_is); (case a24 => k_is); (case l24 => k_is); (case c24 => k_is); (case k24 => k_is); (case a25 => k_is); (case l25 => k_is); (case c25 => k_is); (case k25 => k_is); (case a26 => k_is); (case l26 => k_is); (case c26 => k_is); (case k26 => k_is); (case a27 => k_is); (case l27 => k_is); (case c27 => k_is); (case k27 => k_is); (case ha_RIDE => k_is); (case hb_RIDE => k_is); (case b_range => k_is); (case b_max => k_is); (case b_len => k_is); (case b_tuple => k_is); (case b_reversed => k_is); (case b_dict => k_is); (case b_sorted => k_is); (case b_any => k_is); (case b_enumerate => k_is); (case b_list => k_is); (case b_abs => k_is); (case b_min => k_is); (case b_zip => k_is); (case b_repr => k_is); (case b_isinstance => k_is); (case d8 => k_is); (case d9 => k_is); (case d10 => k_is)

