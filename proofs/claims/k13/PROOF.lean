import PyProof.Rows.All
import HandS.ForMost
import HandS.Exc
import HandS.TupAny
import HandS.Flow
import HandS.WordsExc
import HandS.ForExc
import HandS.Style
import PyProof.Rows.SeqMore
import HandS.Deep
import HandS.TupMul
import HandS.Text
import HandS.Dict
import HandS.TryOnly
import HandS.Codes
import HandS.Comp
import HandS.Small
import HandS.Ends
import HandS.EndBits
import PyProof.ReprLen
import PyProof.P3Eq
import PyProof.FitsReplace
import PySem.Challenge.RW_pathbook_k13_legs_measured
set_option Elab.async false
set_option linter.all false
set_option maxRecDepth 100000
set_option maxHeartbeats 4000000
/-! L3: a layer of plain data over the hand layer: each expression, each statement tied to a Lean function over values. -/
namespace L3
open PySem PySem.Spec PyProof.Rows L2
abbrev Sl := L2.St
def Pfx (A A' : List Addr) : Prop := ∀ (k : Nat) (a : Addr), A[k]? = some a → A'[k]? = some a

/-! ### data -/
inductive D where
  | non | bl (b : Bool) | int (i : Int) | str (x : Str)
  | lst (xs : List D) | tup (xs : List D)
  | dK (ks : List Key) (xs : List D)
  | dT (ks : List (List Key)) (xs : List D)
  | fn (f : Addr)

mutual
/-- v reads as the datum d, by what stands in H -/
inductive Rp (K : PySem.W.Frag) (H : Hp) : V → D → Prop
  | non : Rp K H .non .non
  | bl (b : Bool) : Rp K H (.bl b) (.bl b)
  | int (i : Int) : Rp K H (.int i) (.int i)
  | str (x : Str) : Rp K H (.str x) (.str x)
  | lst {a : Addr} {vs : List V} {ds : List D} : SqL K H a vs → Rps K H vs ds → Rp K H (.ref a) (.lst ds)
  | tup {a : Addr} {vs : List V} {ds : List D} : SqT K H a vs → Rps K H vs ds → Rp K H (.ref a) (.tup ds)
  | dK {a : Addr} {ks : List Key} {vs : List V} {ds : List D} : Rd H a (.dK (ks.zip vs)) → ks.length = vs.length → Rps K H vs ds → Rp K H (.ref a) (.dK ks ds)
  | dT {a : Addr} {ks : List (List Key)} {vs : List V} {ds : List D} : Rd H a (.dT (ks.zip vs)) → ks.length = vs.length → Rps K H vs ds → Rp K H (.ref a) (.dT ks ds)
  | fn (f : Addr) : Rp K H (.ref f) (.fn f)
inductive Rps (K : PySem.W.Frag) (H : Hp) : List V → List D → Prop
  | nil : Rps K H [] []
  | cons {v : V} {vs : List V} {d : D} {ds : List D} : Rp K H v d → Rps K H vs ds → Rps K H (v :: vs) (d :: ds)
end

theorem Rd.mono {H H' : Hp} (h : Same H H') {a : Addr} {u : HO} (r : Rd H a u) : Rd H' a u := by
  rcases r with r | ⟨o, r⟩
  · exact .inl (h _ _ r)
  · exact .inr ⟨o, h _ _ r⟩
theorem sqT_mono {K : PySem.W.Frag} {H H' : Hp} {a : Addr} {xs : List V} (e : Same H H') (h : SqT K H a xs) : SqT K H' a xs := by
  rcases h with h | h
  · exact .inl (Rd.mono e h)
  · exact .inr h
theorem sqL_mono {K : PySem.W.Frag} {H H' : Hp} {a : Addr} {xs : List V} (e : Same H H') (h : SqL K H a xs) : SqL K H' a xs := by
  rcases h with h | h
  · exact .inl (Rd.mono e h)
  · exact .inr h
mutual
theorem Rp.mono {K : PySem.W.Frag} {H H' : Hp} (h : Same H H') : ∀ {v : V} {d : D}, Rp K H v d → Rp K H' v d
  | _, _, .non => .non
  | _, _, .bl b => .bl b
  | _, _, .int i => .int i
  | _, _, .str x => .str x
  | _, _, .lst q r => .lst (sqL_mono h q) (Rps.mono h r)
  | _, _, .tup q r => .tup (sqT_mono h q) (Rps.mono h r)
  | _, _, .dK q l r => .dK (Rd.mono h q) l (Rps.mono h r)
  | _, _, .dT q l r => .dT (Rd.mono h q) l (Rps.mono h r)
  | _, _, .fn f => .fn f
theorem Rps.mono {K : PySem.W.Frag} {H H' : Hp} (h : Same H H') : ∀ {vs : List V} {ds : List D}, Rps K H vs ds → Rps K H' vs ds
  | _, _, .nil => .nil
  | _, _, .cons q r => .cons (Rp.mono h q) (Rps.mono h r)
end
theorem Rps.length {K : PySem.W.Frag} {H : Hp} : ∀ {vs : List V} {ds : List D}, Rps K H vs ds → vs.length = ds.length
  | _, _, .nil => rfl
  | _, _, .cons _ r => congrArg (· + 1) (Rps.length r)
theorem Rps.append {K : PySem.W.Frag} {H : Hp} : ∀ {vs ws : List V} {ds es : List D}, Rps K H vs ds → Rps K H ws es → Rps K H (vs ++ ws) (ds ++ es)
  | _, _, _, _, .nil, s => s
  | _, _, _, _, .cons q r, s => .cons q (Rps.append r s)
theorem Rps.get {K : PySem.W.Frag} {H : Hp} : ∀ {vs : List V} {ds : List D} {i : Nat} {v : V}, Rps K H vs ds → vs[i]? = some v → ∃ d, ds[i]? = some d ∧ Rp K H v d
  | _, _, _, _, .nil, e => by simp at e
  | _, _, 0, _, .cons q _, e => by simp at e; subst e; exact ⟨_, rfl, q⟩
  | _, _, i + 1, v, .cons _ r, e => by
    obtain ⟨d, h1, h2⟩ := Rps.get (i := i) (v := v) r (by simpa using e)
    exact ⟨d, by simpa using h1, h2⟩
theorem Rps.get' {K : PySem.W.Frag} {H : Hp} : ∀ {vs : List V} {ds : List D} {i : Nat} {d : D}, Rps K H vs ds → ds[i]? = some d → ∃ v, vs[i]? = some v ∧ Rp K H v d
  | _, _, _, _, .nil, e => by simp at e
  | _, _, 0, _, .cons q _, e => by simp at e; subst e; exact ⟨_, rfl, q⟩
  | _, _, i + 1, d, .cons _ r, e => by
    obtain ⟨v, h1, h2⟩ := Rps.get' (i := i) (d := d) r (by simpa using e)
    exact ⟨v, by simpa using h1, h2⟩
theorem Rps.take {K : PySem.W.Frag} {H : Hp} : ∀ {vs : List V} {ds : List D} (n : Nat), Rps K H vs ds → Rps K H (vs.take n) (ds.take n)
  | _, _, 0, _ => .nil
  | _, _, _ + 1, .nil => .nil
  | _, _, n + 1, .cons q r => .cons q (Rps.take n r)
theorem Rps.drop {K : PySem.W.Frag} {H : Hp} : ∀ {vs : List V} {ds : List D} (n : Nat), Rps K H vs ds → Rps K H (vs.drop n) (ds.drop n)
  | _, _, 0, q => q
  | _, _, _ + 1, .nil => .nil
  | _, _, n + 1, .cons _ r => Rps.drop n r
theorem Rps.reverse {K : PySem.W.Frag} {H : Hp} : ∀ {vs : List V} {ds : List D}, Rps K H vs ds → Rps K H vs.reverse ds.reverse
  | _, _, .nil => .nil
  | _, _, .cons q r => by
    rw [List.reverse_cons, List.reverse_cons]
    exact (Rps.reverse r).append (.cons q .nil)

/-! ### values of slots: data, owned nodes, cells -/
/-- what an owned object is -/
inductive Nd where
  | lst | dK (ks : List Key) | dT (ks : List (List Key)) | ins (C dx : Addr) (ks : List Str)
def Nd.ho : Nd → List V → HO
  | .lst, vs => .lst vs
  | .dK ks, vs => .dK (ks.zip vs)
  | .dT ks, vs => .dT (ks.zip vs)
  | .ins C dx ks, vs => .ins C dx (ks.zip vs)
/-- as many keys as values; each key once -/
def Nd.len : Nd → Nat → Prop
  | .lst, _ => True
  | .dK ks, n => ks.length = n
  | .dT ks, n => ks.length = n
  | .ins _ _ ks, n => ks.length = n
def Nd.uniq : Nd → Prop
  | .lst => True
  | .dK ks => ks.Nodup
  | .dT ks => ks.Nodup
  | .ins _ _ ks => ks.Nodup
def Nd.fits (n : Nd) (m : Nat) : Prop := n.len m ∧ n.uniq

inductive SV where
  | dat (d : D) | node (n : Nd) (xs : List SV) | cell (k : Nat)
abbrev SV.own (xs : List SV) : SV := .node .lst xs

mutual
/-- as a datum, where it is one -/
def SV.peek : SV → Option D
  | .dat d => some d
  | .node .lst xs => (peeks xs).map D.lst
  | .node (.dK ks) xs => (peeks xs).map (D.dK ks)
  | .node (.dT ks) xs => (peeks xs).map (D.dT ks)
  | .node (.ins _ _ _) _ => none
  | .cell _ => none
def peeks : List SV → Option (List D)
  | [] => some []
  | x :: r => (x.peek).bind fun d => (peeks r).map fun ds => d :: ds
end

mutual
/-- v is the value x: data by the frozen part Φ, owned nodes at addresses of their own (F, all of them), cells by their number -/
inductive RS (K : PySem.W.Frag) (Φ H : Hp) (A : List Addr) : V → SV → List Addr → Prop
  | dat {v : V} {d : D} : Rp K Φ v d → RS K Φ H A v (.dat d) []
  | node {a : Addr} {n : Nd} {vs : List V} {xs : List SV} {F : List Addr} : H a = some (n.ho vs) → n.fits vs.length → Φ a = none → RSs K Φ H A vs xs F → RS K Φ H A (.ref a) (.node n xs) (a :: F)
  | cell {k : Nat} {a : Addr} : A[k]? = some a → RS K Φ H A (.ref a) (.cell k) []
inductive RSs (K : PySem.W.Frag) (Φ H : Hp) (A : List Addr) : List V → List SV → List Addr → Prop
  | nil : RSs K Φ H A [] [] []
  | cons {v : V} {vs : List V} {x : SV} {xs : List SV} {F G : List Addr} : RS K Φ H A v x F → RSs K Φ H A vs xs G → RSs K Φ H A (v :: vs) (x :: xs) (F ++ G)
end

mutual
theorem RS.frame {K : PySem.W.Frag} {Φ H Φ' H' : Hp} {A A' : List Addr} (le : Same Φ Φ') (hA : Pfx A A') :
    ∀ {v : V} {x : SV} {F : List Addr}, RS K Φ H A v x F → (∀ b ∈ F, H' b = H b) → (∀ b ∈ F, Φ' b = none) → RS K Φ' H' A' v x F
  | _, _, _, .dat r, _, _ => .dat (r.mono le)
  | _, _, _, .node (a := a) e f p r, h1, h2 =>
    .node ((h1 a (List.mem_cons_self ..)).trans e) f (h2 a (List.mem_cons_self ..)) (RSs.frame le hA r (fun b hb => h1 b (List.mem_cons_of_mem _ hb)) fun b hb => h2 b (List.mem_cons_of_mem _ hb))
  | _, _, _, .cell e, _, _ => .cell (hA _ _ e)
theorem RSs.frame {K : PySem.W.Frag} {Φ H Φ' H' : Hp} {A A' : List Addr} (le : Same Φ Φ') (hA : Pfx A A') :
    ∀ {vs : List V} {xs : List SV} {F : List Addr}, RSs K Φ H A vs xs F → (∀ b ∈ F, H' b = H b) → (∀ b ∈ F, Φ' b = none) → RSs K Φ' H' A' vs xs F
  | _, _, _, .nil, _, _ => .nil
  | _, _, _, .cons q r, h1, h2 => .cons (RS.frame le hA q (fun b hb => h1 b (List.mem_append_left _ hb)) fun b hb => h2 b (List.mem_append_left _ hb))
      (RSs.frame le hA r (fun b hb => h1 b (List.mem_append_right _ hb)) fun b hb => h2 b (List.mem_append_right _ hb))
end
mutual
theorem RS.there {K : PySem.W.Frag} {Φ H : Hp} {A : List Addr} : ∀ {v : V} {x : SV} {F : List Addr}, RS K Φ H A v x F → ∀ b ∈ F, H b ≠ none ∧ Φ b = none
  | _, _, _, .dat r, b, hb => by simp at hb
  | _, _, _, .node (a := a) e f p r, b, hb => by
    rcases List.mem_cons.mp hb with rfl | hb
    · exact ⟨by rw [e]; simp, p⟩
    · exact RSs.there r b hb
  | _, _, _, .cell e, b, hb => by simp at hb
theorem RSs.there {K : PySem.W.Frag} {Φ H : Hp} {A : List Addr} : ∀ {vs : List V} {xs : List SV} {F : List Addr}, RSs K Φ H A vs xs F → ∀ b ∈ F, H b ≠ none ∧ Φ b = none
  | _, _, _, .nil, b, hb => by simp at hb
  | _, _, _, .cons q r, b, hb => by
    rcases List.mem_append.mp hb with hb | hb
    · exact RS.there q b hb
    · exact RSs.there r b hb
end
theorem RSs.length {K : PySem.W.Frag} {Φ H : Hp} {A : List Addr} : ∀ {vs : List V} {xs : List SV} {F : List Addr}, RSs K Φ H A vs xs F → vs.length = xs.length
  | _, _, _, .nil => rfl
  | _, _, _, .cons _ r => congrArg (· + 1) r.length

theorem peeks_length : ∀ {xs : List SV} {ds : List D}, peeks xs = some ds → xs.length = ds.length
  | [], ds, h => by
    have h : (some [] : Option (List D)) = some ds := by rw [← h]; rfl
    cases h; rfl
  | x :: r, ds, h => by
    unfold peeks at h
    cases e : x.peek with
    | none => rw [e] at h; cases h
    | some d =>
      rw [e] at h
      cases e2 : peeks r with
      | none => rw [e2] at h; cases h
      | some es =>
        rw [e2] at h
        cases h
        exact congrArg (· + 1) (peeks_length e2)

mutual
/-- read as it stands in a heap that has the frozen part -/
theorem RS.rp {K : PySem.W.Frag} {Φ H : Hp} {A : List Addr} (le : Same Φ H) : ∀ {v : V} {x : SV} {F : List Addr} {d : D}, RS K Φ H A v x F → x.peek = some d → Rp K H v d
  | _, _, _, _, .dat r, h => by cases h; exact r.mono le
  | _, _, _, d, .node (a := a) (n := n) (vs := vs) (xs := xs) e f p r, h => by
    cases n with
    | lst =>
      have h : (peeks xs).map D.lst = some d := by rw [← h]; rfl
      cases e2 : peeks xs with
      | none => rw [e2] at h; cases h
      | some ds =>
        rw [e2] at h; cases h
        exact .lst (.inl (.inl e)) (RSs.rp le r e2)
    | dK ks =>
      have h : (peeks xs).map (D.dK ks) = some d := by rw [← h]; rfl
      cases e2 : peeks xs with
      | none => rw [e2] at h; cases h
      | some ds =>
        rw [e2] at h; cases h
        exact .dK (.inl e) f.1 (RSs.rp le r e2)
    | dT ks =>
      have h : (peeks xs).map (D.dT ks) = some d := by rw [← h]; rfl
      cases e2 : peeks xs with
      | none => rw [e2] at h; cases h
      | some ds =>
        rw [e2] at h; cases h
        exact .dT (.inl e) f.1 (RSs.rp le r e2)
    | ins C dx ks =>
      have h : (none : Option D) = some d := by rw [← h]; rfl
      cases h
  | _, _, _, _, .cell e, h => by cases h
theorem RSs.rp {K : PySem.W.Frag} {Φ H : Hp} {A : List Addr} (le : Same Φ H) : ∀ {vs : List V} {xs : List SV} {F : List Addr} {ds : List D}, RSs K Φ H A vs xs F → peeks xs = some ds → Rps K H vs ds
  | _, _, _, ds, .nil, h => by
    have h : (some [] : Option (List D)) = some ds := by rw [← h]; rfl
    cases h; exact .nil
  | _, _, _, ds, .cons (x := x) (xs := xs) q r, h => by
    have h : (x.peek).bind (fun d => (peeks xs).map fun ds => d :: ds) = some ds := by rw [← h]; rfl
    cases e : x.peek with
    | none => rw [e] at h; cases h
    | some d =>
      cases e2 : peeks xs with
      | none => rw [e, e2] at h; cases h
      | some es =>
        rw [e, e2] at h; cases h
        exact .cons (RS.rp le q e) (RSs.rp le r e2)
end

/-- the frozen part with what stands at F -/
def frz (Φ H : Hp) (F : List Addr) : Hp := fun b => if b ∈ F then H b else Φ b
theorem frz_in {Φ H : Hp} {F : List Addr} {b : Addr} (h : b ∈ F) : frz Φ H F b = H b := if_pos h
theorem frz_out {Φ H : Hp} {F : List Addr} {b : Addr} (h : b ∉ F) : frz Φ H F b = Φ b := if_neg h
theorem frz_le {Φ H : Hp} {F : List Addr} (h : ∀ b ∈ F, Φ b = none) : Same Φ (frz Φ H F) := fun b o e => by
  by_cases hb : b ∈ F
  · rw [h b hb] at e; cases e
  · rw [frz_out hb]; exact e
theorem frz_sub {Φ H : Hp} {F : List Addr} (le : Same Φ H) : Same (frz Φ H F) H := fun b o e => by
  by_cases hb : b ∈ F
  · rw [frz_in hb] at e; exact e
  · rw [frz_out hb] at e; exact le _ _ e
theorem frz_nil {Φ H : Hp} : frz Φ H [] = Φ := by funext b; exact if_neg (by simp)

mutual
/-- what is owned, frozen, is a datum -/
theorem RS.freeze {K : PySem.W.Frag} {Φ H : Hp} {A : List Addr} {G : List Addr} (hG : ∀ b ∈ G, Φ b = none) : ∀ {v : V} {x : SV} {F : List Addr} {d : D}, RS K Φ H A v x F → x.peek = some d → (∀ b ∈ F, b ∈ G) → Rp K (frz Φ H G) v d
  | _, _, _, _, .dat r, h, _ => by cases h; exact r.mono (frz_le hG)
  | _, _, _, d, .node (a := a) (n := n) (vs := vs) (xs := xs) e f p r, h, hF => by
    have ea : frz Φ H G a = some (n.ho vs) := by rw [frz_in (hF a (List.mem_cons_self ..))]; exact e
    have hF' := fun b hb => hF b (List.mem_cons_of_mem _ hb)
    cases n with
    | lst =>
      have h : (peeks xs).map D.lst = some d := by rw [← h]; rfl
      cases e2 : peeks xs with
      | none => rw [e2] at h; cases h
      | some ds =>
        rw [e2] at h; cases h
        exact .lst (.inl (.inl ea)) (RSs.freeze hG r e2 hF')
    | dK ks =>
      have h : (peeks xs).map (D.dK ks) = some d := by rw [← h]; rfl
      cases e2 : peeks xs with
      | none => rw [e2] at h; cases h
      | some ds =>
        rw [e2] at h; cases h
        exact .dK (.inl ea) f.1 (RSs.freeze hG r e2 hF')
    | dT ks =>
      have h : (peeks xs).map (D.dT ks) = some d := by rw [← h]; rfl
      cases e2 : peeks xs with
      | none => rw [e2] at h; cases h
      | some ds =>
        rw [e2] at h; cases h
        exact .dT (.inl ea) f.1 (RSs.freeze hG r e2 hF')
    | ins C dx ks =>
      have h : (none : Option D) = some d := by rw [← h]; rfl
      cases h
  | _, _, _, _, .cell e, h, _ => by cases h
theorem RSs.freeze {K : PySem.W.Frag} {Φ H : Hp} {A : List Addr} {G : List Addr} (hG : ∀ b ∈ G, Φ b = none) : ∀ {vs : List V} {xs : List SV} {F : List Addr} {ds : List D}, RSs K Φ H A vs xs F → peeks xs = some ds → (∀ b ∈ F, b ∈ G) → Rps K (frz Φ H G) vs ds
  | _, _, _, ds, .nil, h, _ => by
    have h : (some [] : Option (List D)) = some ds := by rw [← h]; rfl
    cases h; exact .nil
  | _, _, _, ds, .cons (x := x) (xs := xs) q r, h, hF => by
    have h : (x.peek).bind (fun d => (peeks xs).map fun ds => d :: ds) = some ds := by rw [← h]; rfl
    cases e : x.peek with
    | none => rw [e] at h; cases h
    | some d =>
      cases e2 : peeks xs with
      | none => rw [e, e2] at h; cases h
      | some es =>
        rw [e, e2] at h; cases h
        exact .cons (RS.freeze hG q e fun b hb => hF b (List.mem_append_left _ hb)) (RSs.freeze hG r e2 fun b hb => hF b (List.mem_append_right _ hb))
end

/-! ### the state -/
/-- slots, cells -/
structure Sto where
  ρ : List (Option SV)
  μ : List SV

inductive RO (K : PySem.W.Frag) (Φ H : Hp) (A : List Addr) : Sl → List (Option SV) → List Addr → Prop
  | nil : RO K Φ H A [] [] []
  | non {o : Option V} {σ : Sl} {ρ : List (Option SV)} {F : List Addr} : RO K Φ H A σ ρ F → RO K Φ H A (o :: σ) (none :: ρ) F
  | som {v : V} {σ : Sl} {x : SV} {ρ : List (Option SV)} {F G : List Addr} : RS K Φ H A v x F → RO K Φ H A σ ρ G → RO K Φ H A (some v :: σ) (some x :: ρ) (F ++ G)
/-- the cells: each a node at its own address -/
inductive RC (K : PySem.W.Frag) (Φ H : Hp) (A : List Addr) : List Addr → List SV → List Addr → Prop
  | nil : RC K Φ H A [] [] []
  | cons {a : Addr} {B : List Addr} {x : SV} {μ : List SV} {F G : List Addr} : RS K Φ H A (.ref a) x (a :: F) → RC K Φ H A B μ G → RC K Φ H A (a :: B) (x :: μ) ((a :: F) ++ G)

theorem RO.frame {K : PySem.W.Frag} {Φ H Φ' H' : Hp} {A A' : List Addr} (le : Same Φ Φ') (hA : Pfx A A') :
    ∀ {σ : Sl} {ρ : List (Option SV)} {F : List Addr}, RO K Φ H A σ ρ F → (∀ b ∈ F, H' b = H b) → (∀ b ∈ F, Φ' b = none) → RO K Φ' H' A' σ ρ F
  | _, _, _, .nil, _, _ => .nil
  | _, _, _, .non r, h1, h2 => .non (r.frame le hA h1 h2)
  | _, _, _, .som q r, h1, h2 => .som (q.frame le hA (fun b hb => h1 b (List.mem_append_left _ hb)) fun b hb => h2 b (List.mem_append_left _ hb))
      (r.frame le hA (fun b hb => h1 b (List.mem_append_right _ hb)) fun b hb => h2 b (List.mem_append_right _ hb))
theorem RC.frame {K : PySem.W.Frag} {Φ H Φ' H' : Hp} {A A' : List Addr} (le : Same Φ Φ') (hA : Pfx A A') :
    ∀ {B : List Addr} {μ : List SV} {F : List Addr}, RC K Φ H A B μ F → (∀ b ∈ F, H' b = H b) → (∀ b ∈ F, Φ' b = none) → RC K Φ' H' A' B μ F
  | _, _, _, .nil, _, _ => .nil
  | _, _, _, .cons q r, h1, h2 => .cons (q.frame le hA (fun b hb => h1 b (List.mem_append_left _ hb)) fun b hb => h2 b (List.mem_append_left _ hb))
      (r.frame le hA (fun b hb => h1 b (List.mem_append_right _ hb)) fun b hb => h2 b (List.mem_append_right _ hb))
theorem RO.there {K : PySem.W.Frag} {Φ H : Hp} {A : List Addr} : ∀ {σ : Sl} {ρ : List (Option SV)} {F : List Addr}, RO K Φ H A σ ρ F → ∀ b ∈ F, H b ≠ none ∧ Φ b = none
  | _, _, _, .nil, b, hb => by simp at hb
  | _, _, _, .non r, b, hb => r.there b hb
  | _, _, _, .som q r, b, hb => by
    rcases List.mem_append.mp hb with hb | hb
    · exact q.there b hb
    · exact r.there b hb
theorem RC.there {K : PySem.W.Frag} {Φ H : Hp} {A : List Addr} : ∀ {B : List Addr} {μ : List SV} {F : List Addr}, RC K Φ H A B μ F → ∀ b ∈ F, H b ≠ none ∧ Φ b = none
  | _, _, _, .nil, b, hb => by simp at hb
  | _, _, _, .cons q r, b, hb => by
    rcases List.mem_append.mp hb with hb | hb
    · exact q.there b hb
    · exact r.there b hb
theorem RO.length {K : PySem.W.Frag} {Φ H : Hp} {A : List Addr} : ∀ {σ : Sl} {ρ : List (Option SV)} {F : List Addr}, RO K Φ H A σ ρ F → σ.length = ρ.length
  | _, _, _, .nil => rfl
  | _, _, _, .non r => congrArg (· + 1) r.length
  | _, _, _, .som _ r => congrArg (· + 1) r.length

/-- a slot, and what another value there makes of it -/
theorem RO.at {K : PySem.W.Frag} {Φ H : Hp} {A : List Addr} : ∀ {σ : Sl} {ρ : List (Option SV)} {F : List Addr} {i : Nat} {x : SV}, RO K Φ H A σ ρ F → ρ[i]? = some (some x) →
    ∃ v F1 Fi F2, σ[i]? = some (some v) ∧ F = F1 ++ (Fi ++ F2) ∧ RS K Φ H A v x Fi ∧
      ∀ {Φ' H' : Hp} {A' : List Addr}, Same Φ Φ' → Pfx A A' → (∀ b ∈ F1 ++ F2, H' b = H b) → (∀ b ∈ F1 ++ F2, Φ' b = none) →
        (∀ {w : V} {y : SV} {G : List Addr}, RS K Φ' H' A' w y G → RO K Φ' H' A' (σ.set i (some w)) (ρ.set i (some y)) (F1 ++ (G ++ F2))) ∧ (∀ o, RO K Φ' H' A' (σ.set i o) (ρ.set i none) (F1 ++ F2))
  | _, _, _, _, _, .nil, e => by simp at e
  | _, _, _, 0, x, .non r, e => by simp at e
  | _, _, _, 0, x, .som (v := v) (F := F) (G := G) q r, e => by
    simp at e; subst e
    refine ⟨v, [], F, G, rfl, rfl, q, fun le hA h1 h2 => ⟨fun y => ?_, fun o => ?_⟩⟩
    · rw [List.nil_append]; exact .som y (r.frame le hA h1 h2)
    · exact .non (r.frame le hA h1 h2)
  | _, _, _, i + 1, x, .non (o := o) r, e => by
    obtain ⟨v, F1, Fi, F2, e1, e2, q, up⟩ := RO.at (i := i) (x := x) r (by simpa using e)
    refine ⟨v, F1, Fi, F2, by simpa using e1, e2, q, fun le hA h1 h2 => ?_⟩
    obtain ⟨u1, u2⟩ := up le hA h1 h2
    exact ⟨fun y => .non (u1 y), fun o' => .non (u2 o')⟩
  | _, _, _, i + 1, x, .som (v := v0) (F := F0) (G := G0) q0 r, e => by
    obtain ⟨v, F1, Fi, F2, e1, e2, q, up⟩ := RO.at (i := i) (x := x) r (by simpa using e)
    refine ⟨v, F0 ++ F1, Fi, F2, by simpa using e1, by rw [e2, List.append_assoc], q, fun le hA h1 h2 => ?_⟩
    have a1 : ∀ b ∈ F0, b ∈ F0 ++ F1 ++ F2 := fun b hb => List.mem_append_left _ (List.mem_append_left _ hb)
    have a2 : ∀ b ∈ F1 ++ F2, b ∈ F0 ++ F1 ++ F2 := fun b hb => by rw [List.append_assoc]; exact List.mem_append_right _ hb
    obtain ⟨u1, u2⟩ := up le hA (fun b hb => h1 b (a2 b hb)) (fun b hb => h2 b (a2 b hb))
    have q' := q0.frame le hA (fun b hb => h1 b (a1 b hb)) (fun b hb => h2 b (a1 b hb))
    refine ⟨fun {w y G} z => ?_, fun o' => ?_⟩
    · rw [List.append_assoc]; exact .som q' (u1 z)
    · rw [List.append_assoc]; exact .som q' (u2 o')
/-- any slot, filled anew: what it owned is dropped -/
theorem RO.put {K : PySem.W.Frag} {Φ H : Hp} {A : List Addr} : ∀ {σ : Sl} {ρ : List (Option SV)} {F : List Addr} {i : Nat}, RO K Φ H A σ ρ F → i < ρ.length → ∀ {w : V} {y : SV} {G : List Addr}, RS K Φ H A w y G →
    ∃ F1 F2, (∃ Fi, F = F1 ++ (Fi ++ F2)) ∧ RO K Φ H A (σ.set i (some w)) (ρ.set i (some y)) (F1 ++ (G ++ F2))
  | _, _, _, _, .nil, e => by simp at e
  | _, _, _, 0, .non (F := F) r, e => fun q => ⟨[], F, ⟨[], rfl⟩, by rw [List.nil_append]; exact .som q r⟩
  | _, _, _, 0, .som (F := F) (G := G) _ r, e => fun q => ⟨[], G, ⟨F, rfl⟩, by rw [List.nil_append]; exact .som q r⟩
  | _, _, _, i + 1, .non r, e => fun q => by
    obtain ⟨F1, F2, ⟨Fi, e1⟩, z⟩ := RO.put (i := i) r (by simpa using e) q
    exact ⟨F1, F2, ⟨Fi, e1⟩, .non z⟩
  | _, _, _, i + 1, .som (F := F0) q0 r, e => fun q => by
    obtain ⟨F1, F2, ⟨Fi, e1⟩, z⟩ := RO.put (i := i) r (by simpa using e) q
    refine ⟨F0 ++ F1, F2, ⟨Fi, by rw [e1, List.append_assoc]⟩, ?_⟩
    rw [List.append_assoc]
    exact .som q0 z
theorem RC.at {K : PySem.W.Frag} {Φ H : Hp} {A : List Addr} : ∀ {B : List Addr} {μ : List SV} {F : List Addr} {i : Nat} {x : SV}, RC K Φ H A B μ F → μ[i]? = some x →
    ∃ a F1 Fi F2, B[i]? = some a ∧ F = F1 ++ ((a :: Fi) ++ F2) ∧ RS K Φ H A (.ref a) x (a :: Fi) ∧
      ∀ {Φ' H' : Hp} {A' : List Addr}, Same Φ Φ' → Pfx A A' → (∀ b ∈ F1 ++ F2, H' b = H b) → (∀ b ∈ F1 ++ F2, Φ' b = none) →
        ∀ {y : SV} {G : List Addr}, RS K Φ' H' A' (.ref a) y (a :: G) → RC K Φ' H' A' B (μ.set i y) (F1 ++ ((a :: G) ++ F2))
  | _, _, _, _, _, .nil, e => by simp at e
  | _, _, _, 0, x, .cons (a := a) (F := F) (G := G) q r, e => by
    simp at e; subst e
    exact ⟨a, [], F, G, rfl, rfl, q, fun le hA h1 h2 => fun y => .cons y (r.frame le hA h1 h2)⟩
  | _, _, _, i + 1, x, .cons (a := a0) (F := F0) (G := G0) q0 r, e => by
    obtain ⟨a, F1, Fi, F2, e1, e2, q, up⟩ := RC.at (i := i) (x := x) r (by simpa using e)
    refine ⟨a, (a0 :: F0) ++ F1, Fi, F2, by simpa using e1, by rw [e2, List.append_assoc], q, fun le hA h1 h2 => ?_⟩
    have m1 : ∀ b ∈ a0 :: F0, b ∈ ((a0 :: F0) ++ F1) ++ F2 := fun b hb => List.mem_append_left _ (List.mem_append_left _ hb)
    have m2 : ∀ b ∈ F1 ++ F2, b ∈ ((a0 :: F0) ++ F1) ++ F2 := fun b hb => by rw [List.append_assoc]; exact List.mem_append_right _ hb
    intro y G z
    rw [List.append_assoc]
    exact .cons (q0.frame le hA (fun b hb => h1 b (m1 b hb)) (fun b hb => h2 b (m1 b hb))) (up le hA (fun b hb => h1 b (m2 b hb)) (fun b hb => h2 b (m2 b hb)) z)
theorem RC.snoc {K : PySem.W.Frag} {Φ H : Hp} {A : List Addr} {a : Addr} {x : SV} {Fa : List Addr} (q : RS K Φ H A (.ref a) x (a :: Fa)) : ∀ {B : List Addr} {μ : List SV} {F : List Addr}, RC K Φ H A B μ F → RC K Φ H A (B ++ [a]) (μ ++ [x]) (F ++ (a :: Fa))
  | _, _, _, .nil => by
    have := RC.cons q (.nil (K := K) (Φ := Φ) (H := H) (A := A))
    simpa using this
  | _, _, _, .cons q0 r => by
    rw [List.append_assoc]
    exact .cons q0 (RC.snoc q r)
theorem RC.length {K : PySem.W.Frag} {Φ H : Hp} {A : List Addr} : ∀ {B : List Addr} {μ : List SV} {F : List Addr}, RC K Φ H A B μ F → B.length = μ.length
  | _, _, _, .nil => rfl
  | _, _, _, .cons _ r => congrArg (· + 1) r.length

/-- the state stands: slots (F: what they own) and cells (G), all owned addresses apart -/
structure Stands (K : PySem.W.Frag) (S : Sto) (σ : Sl) (H Φ : Hp) (A F G : List Addr) : Prop where
  le : Same Φ H
  ro : RO K Φ H A σ S.ρ F
  rc : RC K Φ H A A S.μ G
  nd : (F ++ G).Nodup

/-- an expression's step: what the cells don't own stays; what is frozen grows by what was owned or is new -/
structure Step (F G : List Addr) (H Φ : Hp) (A : List Addr) (F' G' : List Addr) (H' Φ' : Hp) (A' : List Addr) : Prop where
  keep : ∀ b o, H b = some o → b ∉ G → H' b = some o
  le : Same Φ Φ'
  grow : ∀ b o, Φ' b = some o → Φ b = some o ∨ b ∈ F ∨ b ∈ G ∨ H b = none
  ownF : ∀ b ∈ F', b ∈ F ∨ b ∈ G ∨ H b = none
  ownG : ∀ b ∈ G', b ∈ G ∨ H b = none
  live : ∀ b, H b ≠ none → H' b ≠ none
  cells : Pfx A A'
/-- a statement's: the slots' own may change, too -/
structure Run (F G : List Addr) (H Φ : Hp) (A : List Addr) (F' G' : List Addr) (H' Φ' : Hp) (A' : List Addr) : Prop where
  keep : ∀ b o, H b = some o → b ∉ F → b ∉ G → H' b = some o
  le : Same Φ Φ'
  grow : ∀ b o, Φ' b = some o → Φ b = some o ∨ b ∈ F ∨ b ∈ G ∨ H b = none
  own : ∀ b, b ∈ F' ∨ b ∈ G' → b ∈ F ∨ b ∈ G ∨ H b = none
  live : ∀ b, H b ≠ none → H' b ≠ none
  cells : Pfx A A'
section
variable {F F1 F2 G G1 G2 A A1 A2 T T1 : List Addr} {H H1 H2 Φ Φ1 Φ2 : Hp}
theorem Pfx.refl : Pfx A A := fun _ _ e => e
theorem Pfx.trans (a : Pfx A A1) (b : Pfx A1 A2) : Pfx A A2 := fun k x e => b k x (a k x e)
theorem Step.refl : Step F G H Φ A F G H Φ A := ⟨fun _ _ e _ => e, fun _ _ e => e, fun _ _ e => .inl e, fun _ e => .inl e, fun _ e => .inl e, fun _ e => e, fun _ _ e => e⟩
theorem Step.trans (a : Step F G H Φ A (T ++ F1) G1 H1 Φ1 A1) (b : Step F1 G1 H1 Φ1 A1 (T1 ++ F2) G2 H2 Φ2 A2) : Step F G H Φ A (T ++ (T1 ++ F2)) G2 H2 Φ2 A2 where
  keep := fun c o e hn => by
    refine b.keep c o (a.keep c o e hn) fun hc => ?_
    rcases a.ownG c hc with h | h
    · exact hn h
    · rw [h] at e; cases e
  le := a.le.trans b.le
  grow := fun c o e => by
    rcases b.grow c o e with h | h | h | h
    · exact a.grow c o h
    · exact .inr (a.ownF c (List.mem_append_right _ h))
    · exact .inr (.inr (a.ownG c h))
    · by_cases hc : H c = none
      · exact .inr (.inr (.inr hc))
      · exact absurd h (a.live c hc)
  ownF := fun c hc => by
    rcases List.mem_append.mp hc with hc | hc
    · exact a.ownF c (List.mem_append_left _ hc)
    · rcases b.ownF c hc with h | h | h
      · exact a.ownF c (List.mem_append_right _ h)
      · exact .inr (a.ownG c h)
      · by_cases hc : H c = none
        · exact .inr (.inr hc)
        · exact absurd h (a.live c hc)
  ownG := fun c hc => by
    rcases b.ownG c hc with h | h
    · exact a.ownG c h
    · by_cases hc : H c = none
      · exact .inr hc
      · exact absurd h (a.live c hc)
  live := fun c hc => b.live c (a.live c hc)
  cells := a.cells.trans b.cells
theorem Step.trans0 (a : Step F G H Φ A F1 G1 H1 Φ1 A1) (b : Step F1 G1 H1 Φ1 A1 F2 G2 H2 Φ2 A2) : Step F G H Φ A F2 G2 H2 Φ2 A2 := Step.trans (T := []) (T1 := []) a b
theorem Step.run (a : Step F G H Φ A F1 G1 H1 Φ1 A1) : Run F G H Φ A F1 G1 H1 Φ1 A1 :=
  ⟨fun b o e _ hn => a.keep b o e hn, a.le, a.grow, fun b hb => hb.elim (a.ownF b) fun h => .inr (a.ownG b h), a.live, a.cells⟩
theorem Run.trans (a : Run F G H Φ A F1 G1 H1 Φ1 A1) (b : Run F1 G1 H1 Φ1 A1 F2 G2 H2 Φ2 A2) : Run F G H Φ A F2 G2 H2 Φ2 A2 where
  keep := fun c o e hf hg => by
    have z : ∀ {P : Prop}, (c ∈ F ∨ c ∈ G ∨ H c = none) → P := fun h => by
      rcases h with h | h | h
      · exact absurd h hf
      · exact absurd h hg
      · rw [h] at e; cases e
    exact b.keep c o (a.keep c o e hf hg) (fun hc => z (a.own c (.inl hc))) fun hc => z (a.own c (.inr hc))
  le := a.le.trans b.le
  grow := fun c o e => by
    rcases b.grow c o e with h | h | h | h
    · exact a.grow c o h
    · exact .inr (a.own c (.inl h))
    · exact .inr (a.own c (.inr h))
    · by_cases hc : H c = none
      · exact .inr (.inr (.inr hc))
      · exact absurd h (a.live c hc)
  own := fun c hc => by
    rcases b.own c hc with h | h | h
    · exact a.own c (.inl h)
    · exact a.own c (.inr h)
    · by_cases hc : H c = none
      · exact .inr (.inr hc)
      · exact absurd h (a.live c hc)
  live := fun c hc => b.live c (a.live c hc)
  cells := a.cells.trans b.cells
theorem Run.refl : Run F G H Φ A F G H Φ A := Step.refl.run
theorem Run.sub {F' G' : List Addr} (a : Run F G H Φ A F1 G1 H1 Φ1 A1) (h : ∀ b, b ∈ F' ∨ b ∈ G' → b ∈ F1 ∨ b ∈ G1) : Run F G H Φ A F' G' H1 Φ1 A1 := ⟨a.keep, a.le, a.grow, fun b hb => a.own b (h b hb), a.live, a.cells⟩
/-- what was told ahead and is owned apart stays through a step -/
theorem Step.same (a : Step F1 G1 H1 Φ1 A1 F2 G2 H2 Φ2 A2) (hT : ∀ b ∈ T, H1 b ≠ none ∧ Φ1 b = none) (nd : (T ++ (F1 ++ G1)).Nodup) : (∀ b ∈ T, H2 b = H1 b) ∧ (∀ b ∈ T, Φ2 b = none) := by
  have no : ∀ b ∈ T, b ∉ F1 ∧ b ∉ G1 := fun b hb => by
    have := (List.nodup_append.mp nd).2.2 b hb
    exact ⟨fun h => this b (List.mem_append_left _ h) rfl, fun h => this b (List.mem_append_right _ h) rfl⟩
  refine ⟨fun b hb => ?_, fun b hb => ?_⟩
  · cases e : H1 b with
    | none => exact absurd e (hT b hb).1
    | some o => exact a.keep b o e (no b hb).2
  · cases e : Φ2 b with
    | none => rfl
    | some o =>
      rcases a.grow b o e with h | h | h | h
      · rw [(hT b hb).2] at h; cases h
      · exact absurd h (no b hb).1
      · exact absurd h (no b hb).2
      · exact absurd h (hT b hb).1
theorem Step.apart (a : Step F1 G1 H1 Φ1 A1 F2 G2 H2 Φ2 A2) (hT : ∀ b ∈ T, H1 b ≠ none) (nd : (T ++ (F1 ++ G1)).Nodup) (nd2 : (F2 ++ G2).Nodup) : (T ++ (F2 ++ G2)).Nodup := by
  refine List.nodup_append.mpr ⟨(List.nodup_append.mp nd).1, nd2, fun x hx y hy e => ?_⟩
  subst e
  have n1 := (List.nodup_append.mp nd).2.2 x hx
  have no : x ∉ F1 ∧ x ∉ G1 := ⟨fun h => n1 x (List.mem_append_left _ h) rfl, fun h => n1 x (List.mem_append_right _ h) rfl⟩
  rcases List.mem_append.mp hy with h | h
  · rcases a.ownF x h with h | h | h
    · exact no.1 h
    · exact no.2 h
    · exact hT x hx h
  · rcases a.ownG x h with h | h
    · exact no.2 h
    · exact hT x hx h
end
/-! ### places within owned nodes -/
/-- the part at a path -/
def SV.sub : SV → List Nat → Option SV
  | x, [] => some x
  | .node _ xs, k :: p => match xs[k]? with
    | some y => y.sub p
    | none => none
  | .dat _, _ :: _ => none
  | .cell _, _ :: _ => none
def SV.putp : SV → List Nat → SV → SV
  | _, [], y => y
  | .node n xs, k :: p, y => match xs[k]? with
    | some z => .node n (xs.set k (z.putp p y))
    | none => .node n xs
  | .dat d, _ :: _, _ => .dat d
  | .cell k, _ :: _, _ => .cell k
inductive At (H : Hp) : V → List Nat → V → Prop
  | nil {v : V} : At H v [] v
  | cons {a : Addr} {n : Nd} {vs : List V} {k : Nat} {p : List Nat} {u v : V} : H a = some (n.ho vs) → n.fits vs.length → vs[k]? = some u → At H u p v → At H (.ref a) (k :: p) v
theorem zip_inj {α β : Type} : ∀ {ks ks' : List α} {vs ws : List β}, ks.length = vs.length → ks'.length = ws.length → ks.zip vs = ks'.zip ws → vs = ws
  | [], [], [], [], _, _, _ => rfl
  | _ :: _, _ :: _, _ :: _, _ :: _, h1, h2, e => by
    simp only [List.zip_cons_cons, List.cons.injEq, Prod.mk.injEq] at e
    rw [e.1.2, zip_inj (by simpa using h1) (by simpa using h2) e.2]
  | [], _ :: _, [], _ :: _, _, _, e => by simp at e
  | _ :: _, [], _ :: _, [], _, _, e => by simp at e
  | [], _, _ :: _, _, h, _, _ => by simp at h
  | _ :: _, _, [], _, h, _, _ => by simp at h
  | _, [], _, _ :: _, _, h, _ => by simp at h
  | _, _ :: _, _, [], _, h, _ => by simp at h
theorem Nd.inj {n m : Nd} {vs ws : List V} (hn : n.fits vs.length) (hm : m.fits ws.length) (e : n.ho vs = m.ho ws) : vs = ws := by
  cases n <;> cases m <;> simp only [Nd.ho] at e <;> try cases e
  · rfl
  · injection e with e; exact zip_inj hn.1 hm.1 e
  · injection e with e; exact zip_inj hn.1 hm.1 e
  · injection e with _ _ e; exact zip_inj hn.1 hm.1 e
theorem At.inj {H : Hp} {v0 u w : V} {p : List Nat} (a : At H v0 p u) (b : At H v0 p w) : u = w := by
  induction a with
  | nil => cases b; rfl
  | cons e f g _ ih =>
    cases b with
    | cons e' f' g' r' =>
      rw [e] at e'
      have := Nd.inj f f' (Option.some.inj e')
      subst this
      rw [g] at g'
      cases g'
      exact ih r'
/-- the k-th of some values, and what another one there makes of them -/
theorem RSs.at {K : PySem.W.Frag} {Φ H : Hp} {A : List Addr} : ∀ {vs : List V} {xs : List SV} {F : List Addr} {k : Nat} {x : SV}, RSs K Φ H A vs xs F → xs[k]? = some x →
    ∃ v F1 Fi F2, vs[k]? = some v ∧ F = F1 ++ (Fi ++ F2) ∧ RS K Φ H A v x Fi ∧
      ∀ {Φ' H' : Hp} {A' : List Addr}, Same Φ Φ' → Pfx A A' → (∀ b ∈ F1 ++ F2, H' b = H b) → (∀ b ∈ F1 ++ F2, Φ' b = none) →
        ∀ {w : V} {y : SV} {G : List Addr}, RS K Φ' H' A' w y G → RSs K Φ' H' A' (vs.set k w) (xs.set k y) (F1 ++ (G ++ F2))
  | _, _, _, _, _, .nil, e => by simp at e
  | _, _, _, 0, x, .cons (v := v) (F := F) (G := G) q r, e => by
    simp at e; subst e
    refine ⟨v, [], F, G, rfl, rfl, q, fun le hA h1 h2 => fun y => ?_⟩
    rw [List.nil_append]; exact .cons y (r.frame le hA h1 h2)
  | _, _, _, k + 1, x, .cons (F := F0) q0 r, e => by
    obtain ⟨v, F1, Fi, F2, e1, e2, q, up⟩ := RSs.at (k := k) (x := x) r (by simpa using e)
    refine ⟨v, F0 ++ F1, Fi, F2, by simpa using e1, by rw [e2, List.append_assoc], q, fun le hA h1 h2 => ?_⟩
    have m1 : ∀ b ∈ F0, b ∈ (F0 ++ F1) ++ F2 := fun b hb => List.mem_append_left _ (List.mem_append_left _ hb)
    have m2 : ∀ b ∈ F1 ++ F2, b ∈ (F0 ++ F1) ++ F2 := fun b hb => by rw [List.append_assoc]; exact List.mem_append_right _ hb
    intro w y G z
    rw [List.append_assoc]
    exact .cons (q0.frame le hA (fun b hb => h1 b (m1 b hb)) fun b hb => h2 b (m1 b hb)) (up le hA (fun b hb => h1 b (m2 b hb)) (fun b hb => h2 b (m2 b hb)) z)
/-- the part at a path, and what another one at its very object makes of the whole -/
theorem RS.sub {K : PySem.W.Frag} {Φ H : Hp} {A : List Addr} : ∀ {p : List Nat} {v0 : V} {x0 x : SV} {F : List Addr}, RS K Φ H A v0 x0 F → x0.sub p = some x →
    ∃ v F1 Fx F2, At H v0 p v ∧ F = F1 ++ (Fx ++ F2) ∧ RS K Φ H A v x Fx ∧ (p ≠ [] → ∀ {H' : Hp}, (∀ b ∈ F, H' b = H b) → At H' v0 p v) ∧
      ∀ {Φ' H' : Hp} {A' : List Addr}, Same Φ Φ' → Pfx A A' → (∀ b ∈ F1 ++ F2, H' b = H b) → (∀ b ∈ F1 ++ F2, Φ' b = none) →
        ∀ {y : SV} {G : List Addr}, RS K Φ' H' A' v y G → RS K Φ' H' A' v0 (x0.putp p y) (F1 ++ (G ++ F2))
  | [], v0, x0, x, F, r, e => by
    have e : some x0 = some x := by rw [← e]; cases x0 <;> rfl
    cases e
    refine ⟨v0, [], F, [], .nil, by simp, r, fun h => absurd rfl h, fun le hA h1 h2 y G z => ?_⟩
    have e2 : x0.putp [] y = y := by cases x0 <;> rfl
    rw [e2]; simpa using z
  | k :: p, _, .dat _, x, F, r, e => by cases e
  | k :: p, _, .cell _, x, F, r, e => by cases e
  | k :: p, _, .node n xs, x, _, .node (a := a) (vs := vs) (F := F) ea f pa r, e => by
    cases ek : xs[k]? with
    | none => unfold SV.sub at e; rw [ek] at e; cases e
    | some y0 =>
      have e' : y0.sub p = some x := by rw [← e]; show _ = (match xs[k]? with | some y => y.sub p | none => none); rw [ek]
      obtain ⟨v1, E1, Ei, E2, g1, g2, g3, up1⟩ := RSs.at r ek
      obtain ⟨v, F1, Fx, F2, h1, h2, h3, h3', up2⟩ := RS.sub g3 e'
      subst g2 h2
      refine ⟨v, a :: (E1 ++ F1), Fx, F2 ++ E2, .cons ea f g1 h1, by simp [List.append_assoc], h3, fun _ H' hb => ?_, fun {Φ' H' A'} le hA i1 i2 y G z => ?_⟩
      · refine .cons ((hb a (List.mem_cons_self ..)).trans ea) f g1 ?_
        by_cases hp : p = []
        · subst hp
          cases h1
          exact .nil
        · exact h3' hp fun b hm => hb b (List.mem_cons_of_mem _ (List.mem_append_right _ (List.mem_append_left _ hm)))
      · have z2 := up2 le hA (fun b hb => i1 b (by simp only [List.mem_append, List.mem_cons] at hb ⊢; rcases hb with h | h <;> simp [h]))
          (fun b hb => i2 b (by simp only [List.mem_append, List.mem_cons] at hb ⊢; rcases hb with h | h <;> simp [h])) z
        have z3 := up1 le hA (fun b hb => i1 b (by simp only [List.mem_append, List.mem_cons] at hb ⊢; rcases hb with h | h <;> simp [h]))
          (fun b hb => i2 b (by simp only [List.mem_append, List.mem_cons] at hb ⊢; rcases hb with h | h <;> simp [h])) z2
        have e3 : vs.set k v1 = vs := by
          obtain ⟨hk, ev⟩ := List.getElem?_eq_some_iff.mp g1
          rw [← ev]; exact List.set_getElem_self hk
        rw [e3] at z3
        have e4 : (SV.node n xs).putp (k :: p) y = .node n (xs.set k (y0.putp p y)) := by
          show (match xs[k]? with | some z => SV.node n (xs.set k (z.putp p y)) | none => SV.node n xs) = _
          rw [ek]
        rw [e4]
        have ha : H' a = H a := i1 a (List.mem_append_left _ (List.mem_cons_self ..))
        have hp : Φ' a = none := i2 a (List.mem_append_left _ (List.mem_cons_self ..))
        have q := RS.node (n := n) (ha.trans ea) f hp z3
        have e5 : a :: (E1 ++ F1) ++ (G ++ (F2 ++ E2)) = a :: (E1 ++ (F1 ++ (G ++ F2) ++ E2)) := by simp [List.append_assoc]
        rw [e5]
        exact q
end L3

namespace L3
open PySem PySem.Spec PyProof.Rows L2

def Sto.sub (S : Sto) (i : Nat) (p : List Nat) : Option SV := match S.ρ[i]? with
  | some (some x) => x.sub p
  | _ => none
theorem sub_some {S : Sto} {i : Nat} {p : List Nat} {x : SV} (h : S.sub i p = some x) : ∃ x0, S.ρ[i]? = some (some x0) ∧ x0.sub p = some x := by
  unfold Sto.sub at h
  cases e : S.ρ[i]? with
  | none => rw [e] at h; cases h
  | some o =>
    cases o with
    | none => rw [e] at h; cases h
    | some x0 => rw [e] at h; exact ⟨x0, rfl, h⟩
theorem sub_of {S : Sto} {i : Nat} {p : List Nat} {x0 : SV} (h : S.ρ[i]? = some (some x0)) : S.sub i p = x0.sub p := by
  unfold Sto.sub; rw [h]
/-- slots are at most frozen, in part or whole -/
def Frz (S S' : Sto) : Prop := ∀ (i : Nat) (p : List Nat) (y : SV), p ≠ [] → S'.sub i p = some y → ∃ x, S.sub i p = some x
theorem Frz.refl {S : Sto} : Frz S S := fun _ _ y _ h => ⟨y, h⟩
theorem Frz.trans {S S1 S2 : Sto} (a : Frz S S1) (b : Frz S1 S2) : Frz S S2 := fun i p y hp h => (b i p y hp h).elim fun z q => a i p z hp q
theorem Frz.of {S S' : Sto} (h : S'.ρ = S.ρ) : Frz S S' := fun i p y _ q => ⟨y, by unfold Sto.sub at q ⊢; rw [h] at q; exact q⟩
theorem sub_putp {d : D} : ∀ {p q : List Nat} {x0 y : SV}, q ≠ [] → (x0.putp p (.dat d)).sub q = some y → ∃ z, x0.sub q = some z
  | [], q, x0, y, hq, h => by
    cases q with
    | nil => exact absurd rfl hq
    | cons k q =>
      have e : x0.putp [] (.dat d) = .dat d := by cases x0 <;> rfl
      rw [e] at h; cases h
  | k :: p, [], _, _, hq, _ => absurd rfl hq
  | k :: p, k' :: q, .dat _, y, _, h => by cases h
  | k :: p, k' :: q, .cell _, y, _, h => by cases h
  | k :: p, k' :: q, .node n xs, y, _, h => by
    cases ek : xs[k]? with
    | none =>
      have e4 : (SV.node n xs).putp (k :: p) (.dat d) = .node n xs := by
        show (match xs[k]? with | some z => SV.node n (xs.set k (z.putp p (.dat d))) | none => SV.node n xs) = _
        rw [ek]
      rw [e4] at h; exact ⟨y, h⟩
    | some z0 =>
      have e4 : (SV.node n xs).putp (k :: p) (.dat d) = .node n (xs.set k (z0.putp p (.dat d))) := by
        show (match xs[k]? with | some z => SV.node n (xs.set k (z.putp p (.dat d))) | none => SV.node n xs) = _
        rw [ek]
      rw [e4] at h
      have h : (match (xs.set k (z0.putp p (.dat d)))[k']? with | some y => y.sub q | none => none) = some y := h
      show ∃ z, (match xs[k']? with | some y => y.sub q | none => none) = some z
      by_cases hk : k = k'
      · subst hk
        have hlt : k < xs.length := (List.getElem?_eq_some_iff.mp ek).1
        rw [List.getElem?_set_self hlt] at h
        rw [ek]
        by_cases hq : q = []
        · subst hq; exact ⟨z0, by cases z0 <;> rfl⟩
        · exact sub_putp hq h
      · rw [List.getElem?_set_ne hk] at h
        exact ⟨y, h⟩
/-! ### results of expressions -/
/-- a value of its own (data, or new and owned by none), or a part of what slot i owns -/
inductive R where
  | val (x : SV) | bor (i : Nat) (p : List Nat)
abbrev R.d (d : D) : R := .val (.dat d)
abbrev R.i (i : Int) : R := .val (.dat (.int i))
abbrev R.b (b : Bool) : R := .val (.dat (.bl b))
def RV (K : PySem.W.Frag) (Φ H : Hp) (A : List Addr) (S : Sto) (σ : Sl) (v : V) (r : R) (T : List Addr) : Prop := match r with
  | .val x => RS K Φ H A v x T
  | .bor i p => T = [] ∧ ∃ v0, σ[i]? = some (some v0) ∧ (p = [] → v = v0) ∧ ∀ x, S.sub i p = some x → At H v0 p v
/-- an exception -/
structure Ex where
  cls : Value
  fs : List (Str × D)
inductive Out (α : Type) where
  | ok (a : α) (S : Sto) | exc (e : Ex) (S : Sto)
def RX (K : PySem.W.Frag) (Φ H : Hp) (e : Ex) (c : Value) (d : Option Addr) : Prop :=
  c = e.cls ∧ ((e.fs = [] ∧ d = none) ∨ ∃ dx vs ds, d = some dx ∧ e.fs = ((e.fs.map (·.1)).zip ds) ∧ H dx = some (.xd ((e.fs.map (·.1)).zip vs)) ∧ vs.length = e.fs.length ∧ Rps K Φ vs ds)

section
variable (K : PySem.W.Frag) (W : WX)
def PostE (S : Sto) (σ : Sl) (H Φ : Hp) (A F G : List Addr) (Q : VK) : Out R → Prop
  | .ok r S' => ∀ v H' Φ' A' T F' G', Step F G H Φ A (T ++ F') G' H' Φ' A' → Stands K S' σ H' Φ' A' F' G' → RV K Φ' H' A' S' σ v r T → (T ++ (F' ++ G')).Nodup → Frz S S' → Q v H'
  | .exc e S' => ∀ c d H' Φ' A' F' G', Step F G H Φ A F' G' H' Φ' A' → Stands K S' σ H' Φ' A' F' G' → RX K Φ' H' e c d → Frz S S' → W c d σ H'
def PostT (S : Sto) (σ : Sl) (H Φ : Hp) (A F G : List Addr) (Q : Bool → Hp → Prop) : Out Bool → Prop
  | .ok b S' => ∀ H' Φ' A' F' G', Step F G H Φ A F' G' H' Φ' A' → Stands K S' σ H' Φ' A' F' G' → Frz S S' → Q b H'
  | .exc e S' => ∀ c d H' Φ' A' F' G', Step F G H Φ A F' G' H' Φ' A' → Stands K S' σ H' Φ' A' F' G' → RX K Φ' H' e c d → Frz S S' → W c d σ H'
inductive RVs (Φ H : Hp) (A : List Addr) (S : Sto) (σ : Sl) : List V → List R → List Addr → Prop
  | nil : RVs Φ H A S σ [] [] []
  | cons {v : V} {r : R} {vs : List V} {rs : List R} {T U : List Addr} : RV K Φ H A S σ v r T → RVs Φ H A S σ vs rs U → RVs Φ H A S σ (v :: vs) (r :: rs) (T ++ U)
def PostA (S : Sto) (σ : Sl) (H Φ : Hp) (A F G : List Addr) (Q : List V → Hp → Prop) : Out (List R) → Prop
  | .ok rs S' => ∀ vs H' Φ' A' T F' G', Step F G H Φ A (T ++ F') G' H' Φ' A' → Stands K S' σ H' Φ' A' F' G' → RVs K Φ' H' A' S' σ vs rs T → (T ++ (F' ++ G')).Nodup → Frz S S' → Q vs H'
  | .exc e S' => ∀ c d H' Φ' A' F' G', Step F G H Φ A F' G' H' Φ' A' → Stands K S' σ H' Φ' A' F' G' → RX K Φ' H' e c d → Frz S S' → W c d σ H'
abbrev FE := Sto → Option (Out R)
abbrev FT := Sto → Option (Out Bool)
abbrev FA := Sto → Option (Out (List R))
def EV (t : TE) (f : FE) : Prop := ∀ S σ H Φ A F G, Stands K S σ H Φ A F G → ∀ out, f S = some out → ∀ Q, PostE K W S σ H Φ A F G Q out → t σ H Q
def EVT (t : TT) (f : FT) : Prop := ∀ S σ H Φ A F G, Stands K S σ H Φ A F G → ∀ out, f S = some out → ∀ Q, PostT K W S σ H Φ A F G Q out → t σ H Q
def EVA (t : TA) (f : FA) : Prop := ∀ S σ H Φ A F G, Stands K S σ H Φ A F G → ∀ out, f S = some out → ∀ Q, PostA K W S σ H Φ A F G Q out → t σ H Q
end
structure DE (X : Cx) (W : WX) (e : Expr) (t : TE) (f : FE) : Prop where
  pe : PE X e t
  ev : EV X.K W t f
structure DT (X : Cx) (W : WX) (e : Expr) (t : TT) (f : FT) : Prop where
  pe : PT X e t
  ev : EVT X.K W t f
structure DW (X : Cx) (W : WX) (e : Expr) (t : TT) (f : FT) : Prop where
  pe : PW X e t
  ev : EVT X.K W t f
structure DA (X : Cx) (W : WX) (es : List Expr) (t : TA) (f : FA) : Prop where
  pe : PA X es t
  ev : EVA X.K W t f

/-! ### reading results -/
/-- the value of a result -/
def R.sv (S : Sto) : R → Option SV
  | .val x => some x
  | .bor i p => S.sub i p
/-- .. as a datum -/
def R.peek (S : Sto) (r : R) : Option D := (r.sv S).bind SV.peek

section
variable {K : PySem.W.Frag} {S S' : Sto} {σ : Sl} {H Φ H' Φ' : Hp} {A A' F G F' G' T : List Addr} {v : V} {r : R}
/-- the value of a result stands: with the footprint that it has -/
theorem RV.rs (st : Stands K S σ H Φ A F G) (h : RV K Φ H A S σ v r T) {x : SV} (e : r.sv S = some x) : ∃ U, RS K Φ H A v x U ∧ (∀ b ∈ U, b ∈ T ∨ b ∈ F) := by
  cases r with
  | val y => cases e; exact ⟨T, h, fun b hb => .inl hb⟩
  | bor i p =>
    obtain ⟨rfl, v0, e0, hp, hat⟩ := h
    obtain ⟨x0, e1, e2⟩ := sub_some (show S.sub i p = some x from e)
    obtain ⟨v', F1, Fi, F2, e3, e4, q, _⟩ := st.ro.at e1
    rw [e0] at e3; cases e3
    obtain ⟨u, E1, Ex, E2, a1, a2, a3, _⟩ := RS.sub q e2
    have : u = v := a1.inj (hat x e)
    subst this
    exact ⟨Ex, a3, fun b hb => .inr (by rw [e4, a2]; simp [hb])⟩
theorem RV.rp (st : Stands K S σ H Φ A F G) (h : RV K Φ H A S σ v r T) {d : D} (e : r.peek S = some d) : Rp K H v d := by
  unfold R.peek at e
  cases e1 : r.sv S with
  | none => rw [e1] at e; cases e
  | some x =>
    rw [e1] at e
    obtain ⟨U, q, _⟩ := RV.rs st h e1
    exact q.rp st.le e
/-- .. as a frozen datum -/
theorem RV.dat (st : Stands K S σ H Φ A F G) (h : RV K Φ H A S σ v r T) {d : D} (e : r.sv S = some (.dat d)) : Rp K Φ v d := by
  obtain ⟨U, q, _⟩ := RV.rs st h e
  cases q with
  | dat q => exact q
theorem RV.there (h : RV K Φ H A S σ v r T) : ∀ b ∈ T, H b ≠ none ∧ Φ b = none := by
  cases r with
  | val y => exact RS.there h
  | bor i p => obtain ⟨rfl, _⟩ := h; intro b hb; simp at hb
/-- a result told ahead, behind a step -/
theorem RV.step {F1 G1 : List Addr} (st : Stands K S σ H Φ A F G) (h : RV K Φ H A S σ v r T) (nd : (T ++ (F ++ G)).Nodup) (sp : Step F G H Φ A F1 G1 H' Φ' A') (fz : Frz S S') : RV K Φ' H' A' S' σ v r T := by
  obtain ⟨k1, k2⟩ := sp.same h.there nd
  cases r with
  | val y => exact RS.frame sp.le sp.cells h k1 k2
  | bor i p =>
    obtain ⟨rfl, v0, e0, hp, hat⟩ := h
    refine ⟨rfl, v0, e0, hp, fun x1 e1 => ?_⟩
    by_cases hp' : p = []
    · subst hp'; rw [hp rfl]; exact .nil
    · obtain ⟨x, e⟩ := fz i p x1 hp' e1
      obtain ⟨x0, e1', e2⟩ := sub_some e
      obtain ⟨v', F1, Fi, F2, e3, e4, q, _⟩ := st.ro.at e1'
      rw [e0] at e3; cases e3
      obtain ⟨u, E1, Ex, E2, a1, a2, a3, a4, _⟩ := RS.sub q e2
      have : u = v := a1.inj (hat x e)
      subst this
      refine a4 hp' fun b hb => ?_
      have hF : b ∈ F := by rw [e4]; simp [hb]
      have hG : b ∉ G := fun z => (List.nodup_append.mp st.nd).2.2 b hF b z rfl
      obtain ⟨h1, _⟩ := st.ro.there b hF
      cases e5 : H b with
      | none => exact absurd e5 h1
      | some o => exact sp.keep b o e5 hG
theorem RVs.there : ∀ {vs : List V} {rs : List R} {T : List Addr}, RVs K Φ H A S σ vs rs T → ∀ b ∈ T, H b ≠ none ∧ Φ b = none
  | _, _, _, .nil, b, hb => by simp at hb
  | _, _, _, .cons q r, b, hb => by
    rcases List.mem_append.mp hb with hb | hb
    · exact RV.there q b hb
    · exact RVs.there r b hb
theorem nd_left {T U V : List Addr} (h : ((T ++ U) ++ V).Nodup) : (T ++ V).Nodup := by
  refine h.sublist ?_
  exact (List.sublist_append_left T U).append (List.Sublist.refl V)
theorem nd_right {T U V : List Addr} (h : ((T ++ U) ++ V).Nodup) : (U ++ V).Nodup := by
  refine h.sublist ?_
  exact (List.sublist_append_right T U).append (List.Sublist.refl V)
theorem RVs.step {F1 G1 : List Addr} (st : Stands K S σ H Φ A F G) (sp : Step F G H Φ A F1 G1 H' Φ' A') (fz : Frz S S') :
    ∀ {vs : List V} {rs : List R} {T : List Addr}, RVs K Φ H A S σ vs rs T → (T ++ (F ++ G)).Nodup → RVs K Φ' H' A' S' σ vs rs T
  | _, _, _, .nil, _ => .nil
  | _, _, _, .cons q r, nd => .cons (RV.step st q (nd_left nd) sp fz) (RVs.step st sp fz r (nd_right nd))
theorem RVs.length : ∀ {vs : List V} {rs : List R} {T : List Addr}, RVs K Φ H A S σ vs rs T → vs.length = rs.length
  | _, _, _, .nil => rfl
  | _, _, _, .cons _ r => congrArg (· + 1) r.length

/-! ### what is handed on: frozen, or a cell -/
/-- freeze what is at F (all of it owned, none of it elsewhere) -/
theorem Stands.frz (st : Stands K S σ H Φ A F G) (hT : ∀ b ∈ T, H b ≠ none ∧ Φ b = none) (nd : (T ++ (F ++ G)).Nodup) : Stands K S σ H (frz Φ H T) A F G ∧ Step (T ++ F) G H Φ A F G H (L3.frz Φ H T) A := by
  have hn : ∀ b ∈ F ++ G, b ∉ T := fun b hb hT' => (List.nodup_append.mp nd).2.2 b hT' b hb rfl
  have l1 : Same Φ (L3.frz Φ H T) := frz_le fun b hb => (hT b hb).2
  refine ⟨⟨frz_sub st.le, st.ro.frame l1 Pfx.refl (fun _ _ => rfl) fun b hb => ?_, st.rc.frame l1 Pfx.refl (fun _ _ => rfl) fun b hb => ?_, st.nd⟩,
    fun _ _ e _ => e, l1, fun b o e => ?_, fun b hb => .inl (List.mem_append_right _ hb), fun b hb => .inl hb, fun _ h => h, Pfx.refl⟩
  · rw [frz_out (hn b (List.mem_append_left _ hb))]; exact (st.ro.there b hb).2
  · rw [frz_out (hn b (List.mem_append_right _ hb))]; exact (st.rc.there b hb).2
  · by_cases hb : b ∈ T
    · exact .inr (.inl (List.mem_append_left _ hb))
    · rw [frz_out hb] at e; exact .inl e
/-- a result as a datum for good: what a slot owns is frozen in it -/
def R.esc (S : Sto) : R → Option (D × Sto)
  | .val x => x.peek.map fun d => (d, S)
  | .bor i p => match S.ρ[i]? with
    | some (some x0) => match x0.sub p with
      | some (.dat d) => some (d, S)
      | some x => x.peek.map fun d => (d, { S with ρ := S.ρ.set i (some (x0.putp p (.dat d))) })
      | none => none
    | _ => none
theorem frz_slot {i : Nat} {x0 : SV} {p : List Nat} {d : D} (e : S.ρ[i]? = some (some x0)) : Frz S { S with ρ := S.ρ.set i (some (x0.putp p (.dat d))) } := fun j q y hq h => by
  by_cases hj : i = j
  · subst hj
    have hlt : i < S.ρ.length := (List.getElem?_eq_some_iff.mp e).1
    rw [sub_of (S := { S with ρ := S.ρ.set i (some (x0.putp p (.dat d))) }) (by show (S.ρ.set i _)[i]? = _; rw [List.getElem?_set_self hlt])] at h
    rw [sub_of e]
    exact sub_putp hq h
  · refine ⟨y, ?_⟩
    unfold Sto.sub at h ⊢
    have e2 : (S.ρ.set i (some (x0.putp p (.dat d))))[j]? = S.ρ[j]? := List.getElem?_set_ne hj
    rw [show ({ S with ρ := S.ρ.set i (some (x0.putp p (.dat d))) } : Sto).ρ[j]? = S.ρ[j]? from e2] at h
    exact h
theorem esc_ok (st : Stands K S σ H Φ A F G) (h : RV K Φ H A S σ v r T) (nd : (T ++ (F ++ G)).Nodup) {d : D} {S' : Sto} (e : r.esc S = some (d, S')) :
    ∃ Φ' F', Step (T ++ F) G H Φ A F' G H Φ' A ∧ Stands K S' σ H Φ' A F' G ∧ Rp K Φ' v d ∧ Frz S S' := by
  cases r with
  | val x =>
    have e : x.peek.map (fun d => (d, S)) = some (d, S') := e
    cases ex : x.peek with
    | none => rw [ex] at e; cases e
    | some d0 =>
      rw [ex] at e; cases e
      obtain ⟨s1, s2⟩ := st.frz (RS.there h) nd
      exact ⟨_, F, s2, s1, RS.freeze (fun b hb => (RS.there h b hb).2) h ex fun b hb => hb, .refl⟩
  | bor i p =>
    obtain ⟨rfl, v0, e0, hp, hat⟩ := h
    unfold R.esc at e
    dsimp only at e
    cases e1 : S.ρ[i]? with
    | none => rw [e1] at e; cases e
    | some o =>
      cases o with
      | none => rw [e1] at e; cases e
      | some x0 =>
        rw [e1] at e
        dsimp only at e
        cases e2 : x0.sub p with
        | none => rw [e2] at e; cases e
        | some x =>
          obtain ⟨v', F1, Fi, F2, e3, e4, q, up⟩ := st.ro.at e1
          rw [e0] at e3; cases e3
          obtain ⟨u, E1, Ex, E2, a1, a2, a3, _, a5⟩ := RS.sub q e2
          have hu : u = v := a1.inj (hat x (by rw [sub_of e1]; exact e2))
          subst hu
          rw [e2] at e
          have fin : ∀ d0, x.peek = some d0 → S' = { S with ρ := S.ρ.set i (some (x0.putp p (.dat d0))) } → d = d0 →
              ∃ Φ' F', Step ([] ++ F) G H Φ A F' G H Φ' A ∧ Stands K S' σ H Φ' A F' G ∧ Rp K Φ' u d ∧ Frz S S' := fun d0 ex eS ed => by
            subst eS ed
            subst e4 a2
            have hE : ∀ b ∈ Ex, H b ≠ none ∧ Φ b = none := RS.there a3
            have ndF : (F1 ++ ((E1 ++ (Ex ++ E2)) ++ F2) ++ G).Nodup := st.nd
            have no : ∀ b, b ∈ (F1 ++ (E1 ++ E2) ++ F2) ++ G → b ∉ Ex := fun b hb hx => by
              simp only [List.nodup_append, List.mem_append] at ndF
              simp only [List.mem_append] at hb
              grind
            have l1 : Same Φ (L3.frz Φ H Ex) := frz_le fun b hb => (hE b hb).2
            have hrp : Rp K (L3.frz Φ H Ex) u d := RS.freeze (fun b hb => (hE b hb).2) a3 ex fun b hb => hb
            have nf : ∀ b, b ∈ (F1 ++ (E1 ++ E2) ++ F2) ++ G → Φ b = none → L3.frz Φ H Ex b = none := fun b hb hz => by rw [frz_out (no b hb)]; exact hz
            have r0 := a5 (Φ' := L3.frz Φ H Ex) (H' := H) (A' := A) l1 Pfx.refl (fun _ _ => rfl) (fun b hb => nf b (by simp only [List.mem_append] at hb ⊢; grind) ((RS.there q b (by simp only [List.mem_append] at hb ⊢; grind)).2)) (y := .dat d) (G := []) (.dat hrp)
            have r1 := (up (Φ' := L3.frz Φ H Ex) (H' := H) (A' := A) l1 Pfx.refl (fun _ _ => rfl) (fun b hb => nf b (by simp only [List.mem_append] at hb ⊢; grind) ((st.ro.there b (by simp only [List.mem_append] at hb ⊢; grind)).2))).1 r0
            have es : σ.set i (some v0) = σ := by
              obtain ⟨hk, ev⟩ := List.getElem?_eq_some_iff.mp e0
              rw [← ev]; exact List.set_getElem_self hk
            rw [es] at r1
            refine ⟨L3.frz Φ H Ex, F1 ++ ((E1 ++ ([] ++ E2)) ++ F2), ⟨fun _ _ e _ => e, l1, fun b o e => ?_, fun b hb => ?_, fun b hb => .inl hb, fun _ h => h, Pfx.refl⟩, ⟨frz_sub st.le, r1, st.rc.frame l1 Pfx.refl (fun _ _ => rfl) fun b hb => ?_, ?_⟩, hrp, frz_slot e1⟩
            · by_cases hb : b ∈ Ex
              · exact .inr (.inl (by simp only [List.mem_append]; grind))
              · rw [frz_out hb] at e; exact .inl e
            · exact .inl (by simp only [List.mem_append] at hb ⊢; grind)
            · exact nf b (List.mem_append_right _ hb) (st.rc.there b hb).2
            · simp only [List.nodup_append, List.mem_append] at ndF ⊢
              grind
          cases x with
          | dat d0 =>
            cases e
            cases a3 with
            | dat a3 => exact ⟨Φ, F, by rw [List.nil_append]; exact .refl, st, a3, .refl⟩
          | node n xs =>
            have e : ((SV.node n xs).peek).map (fun d => (d, ({ S with ρ := S.ρ.set i (some (x0.putp p (.dat d))) } : Sto))) = some (d, S') := e
            cases ex : (SV.node n xs).peek with
            | none => rw [ex] at e; cases e
            | some d0 => rw [ex] at e; cases e; exact fin _ ex rfl rfl
          | cell k => cases e
end
end L3

namespace L3
open PySem PySem.Spec PyProof.Rows L2

section
variable {K : PySem.W.Frag} {W : WX} {S S' S1 S2 : Sto} {σ : Sl} {H Φ H' Φ' H1 Φ1 H2 Φ2 : Hp} {A A' A1 A2 F G F' G' F1 G1 F2 G2 T T1 T2 : List Addr} {v : V} {r : R}

theorem Step.drop (a : Step F G H Φ A (T ++ F') G' H' Φ' A') : Step F G H Φ A F' G' H' Φ' A' := ⟨a.keep, a.le, a.grow, fun b hb => a.ownF b (List.mem_append_right _ hb), a.ownG, a.live, a.cells⟩
theorem Step.mid (a : Step F G H Φ A (T ++ (T1 ++ F')) G' H' Φ' A') : Step F G H Φ A (T1 ++ F') G' H' Φ' A' := a.drop
/-- what is wanted of an exception -/
def XP (K : PySem.W.Frag) (W : WX) (S : Sto) (σ : Sl) (H Φ : Hp) (A F G : List Addr) (e : Ex) (S' : Sto) : Prop :=
  ∀ c d H' Φ' A' F' G', Step F G H Φ A F' G' H' Φ' A' → Stands K S' σ H' Φ' A' F' G' → RX K Φ' H' e c d → Frz S S' → W c d σ H'
theorem XP.at {e : Ex} (x : XP K W S σ H Φ A F G e S') (sp : Step F G H Φ A (T ++ F1) G1 H1 Φ1 A1) (fz : Frz S S1) : XP K W S1 σ H1 Φ1 A1 F1 G1 e S' :=
  fun c d H' Φ' A' F' G' s2 st rx f2 => x c d H' Φ' A' F' G' (Step.trans (T1 := []) sp s2).drop st rx (fz.trans f2)

def bindE {α β : Type} (f : Sto → Option (Out α)) (g : α → Sto → Option (Out β)) : Sto → Option (Out β) := fun S => match f S with
  | some (.ok a S1) => g a S1
  | some (.exc e S1) => some (.exc e S1)
  | none => none
def retE {α : Type} (a : α) : Sto → Option (Out α) := fun S => some (.ok a S)

theorem run1 {t : TE} {f : FE} {β : Type} {k : R → Sto → Option (Out β)} {out : Out β} {P : VK} (hf : EV K W t f) (st : Stands K S σ H Φ A F G) (h : bindE f k S = some out)
    (hx : ∀ e S', out = .exc e S' → XP K W S σ H Φ A F G e S')
    (hk : ∀ r S1 v H1 Φ1 A1 T F1 G1, Step F G H Φ A (T ++ F1) G1 H1 Φ1 A1 → Stands K S1 σ H1 Φ1 A1 F1 G1 → RV K Φ1 H1 A1 S1 σ v r T → (T ++ (F1 ++ G1)).Nodup → Frz S S1 → k r S1 = some out → P v H1) : t σ H P := by
  unfold bindE at h
  cases e : f S with
  | none => rw [e] at h; cases h
  | some o =>
    rw [e] at h
    cases o with
    | ok r S1 => exact hf S σ H Φ A F G st _ e P fun v H' Φ' A' T F' G' sp st' rv nd fz => hk r S1 v H' Φ' A' T F' G' sp st' rv nd fz h
    | exc x S1 =>
      cases h
      exact hf S σ H Φ A F G st _ e P (hx x S1 rfl)
theorem run2 {ta tb : TE} {fa fb : FE} {β : Type} {k : R → R → Sto → Option (Out β)} {out : Out β} {P : V → V → Hp → Prop} (ha : EV K W ta fa) (hb : EV K W tb fb) (st : Stands K S σ H Φ A F G)
    (h : bindE fa (fun x => bindE fb fun y => k x y) S = some out) (hx : ∀ e S', out = .exc e S' → XP K W S σ H Φ A F G e S')
    (hk : ∀ ra rb S1 x y H1 Φ1 A1 T U F1 G1, Step F G H Φ A (T ++ (U ++ F1)) G1 H1 Φ1 A1 → Stands K S1 σ H1 Φ1 A1 F1 G1 → RV K Φ1 H1 A1 S1 σ x ra T → RV K Φ1 H1 A1 S1 σ y rb U → (T ++ (U ++ (F1 ++ G1))).Nodup → Frz S S1 →
      k ra rb S1 = some out → P x y H1) : ta σ H fun x H1 => tb σ H1 fun y H2 => P x y H2 :=
  run1 ha st h hx fun ra S1 x H1 Φ1 A1 T F1 G1 sp1 st1 rv1 nd1 fz1 h1 => run1 hb st1 h1 (fun e S' eo => (hx e S' eo).at sp1 fz1) fun rb S2 y H2 Φ2 A2 U F2 G2 sp2 st2 rv2 nd2 fz2 h2 => by
    have rv1' := RV.step st1 rv1 nd1 sp2.drop fz2
    have nd : (T ++ (U ++ (F2 ++ G2))).Nodup := by
      have := sp2.apart (fun b hb => (rv1.there b hb).1) nd1 (by rw [List.append_assoc]; exact nd2)
      simpa [List.append_assoc] using this
    exact hk ra rb S2 x y H2 Φ2 A2 T U F2 G2 (sp1.trans sp2) st2 rv1' rv2 nd (fz1.trans fz2) h2
theorem runA {t : TA} {f : FA} {β : Type} {k : List R → Sto → Option (Out β)} {out : Out β} {P : List V → Hp → Prop} (hf : EVA K W t f) (st : Stands K S σ H Φ A F G) (h : bindE f k S = some out)
    (hx : ∀ e S', out = .exc e S' → XP K W S σ H Φ A F G e S')
    (hk : ∀ rs S1 vs H1 Φ1 A1 T F1 G1, Step F G H Φ A (T ++ F1) G1 H1 Φ1 A1 → Stands K S1 σ H1 Φ1 A1 F1 G1 → RVs K Φ1 H1 A1 S1 σ vs rs T → (T ++ (F1 ++ G1)).Nodup → Frz S S1 → k rs S1 = some out → P vs H1) : t σ H P := by
  unfold bindE at h
  cases e : f S with
  | none => rw [e] at h; cases h
  | some o =>
    rw [e] at h
    cases o with
    | ok r S1 => exact hf S σ H Φ A F G st _ e P fun v H' Φ' A' T F' G' sp st' rv nd fz => hk r S1 v H' Φ' A' T F' G' sp st' rv nd fz h
    | exc x S1 =>
      cases h
      exact hf S σ H Φ A F G st _ e P (hx x S1 rfl)
theorem runT {t : TT} {f : FT} {β : Type} {k : Bool → Sto → Option (Out β)} {out : Out β} {P : Bool → Hp → Prop} (hf : EVT K W t f) (st : Stands K S σ H Φ A F G) (h : bindE f k S = some out)
    (hx : ∀ e S', out = .exc e S' → XP K W S σ H Φ A F G e S')
    (hk : ∀ b S1 H1 Φ1 A1 F1 G1, Step F G H Φ A F1 G1 H1 Φ1 A1 → Stands K S1 σ H1 Φ1 A1 F1 G1 → Frz S S1 → k b S1 = some out → P b H1) : t σ H P := by
  unfold bindE at h
  cases e : f S with
  | none => rw [e] at h; cases h
  | some o =>
    rw [e] at h
    cases o with
    | ok r S1 => exact hf S σ H Φ A F G st _ e P fun H' Φ' A' F' G' sp st' fz => hk r S1 H' Φ' A' F' G' sp st' fz h
    | exc x S1 =>
      cases h
      exact hf S σ H Φ A F G st _ e P (hx x S1 rfl)
/-- from PostE, what run1 wants of exceptions -/
theorem PostE.x {out : Out R} {Q : VK} (h : PostE K W S σ H Φ A F G Q out) : ∀ e S', out = .exc e S' → XP K W S σ H Φ A F G e S' := fun e S' eo => by subst eo; exact h
theorem PostT.x {out : Out Bool} {Q : Bool → Hp → Prop} (h : PostT K W S σ H Φ A F G Q out) : ∀ e S', out = .exc e S' → XP K W S σ H Φ A F G e S' := fun e S' eo => by subst eo; exact h
theorem PostA.x {out : Out (List R)} {Q : List V → Hp → Prop} (h : PostA K W S σ H Φ A F G Q out) : ∀ e S', out = .exc e S' → XP K W S σ H Φ A F G e S' := fun e S' eo => by subst eo; exact h
/-- the post at a later state -/
theorem PostE.at {out : Out R} {Q : VK} (h : PostE K W S σ H Φ A F G Q out) (sp : Step F G H Φ A (T ++ F1) G1 H1 Φ1 A1) (fz : Frz S S1) : PostE K W S1 σ H1 Φ1 A1 (T ++ F1) G1 Q out := by
  cases out with
  | ok r S' =>
    intro v H' Φ' A' U F' G' s2 st rv nd f2
    have s3 : Step F G H Φ A (U ++ F') G' H' Φ' A' := Step.trans (T := []) (T1 := U) (F1 := T ++ F1) sp s2
    exact h v H' Φ' A' U F' G' s3 st rv nd (fz.trans f2)
  | exc e S' =>
    intro c d H' Φ' A' F' G' s2 st rx f2
    have s3 : Step F G H Φ A F' G' H' Φ' A' := Step.trans (T := []) (T1 := []) (F1 := T ++ F1) sp s2
    exact h c d H' Φ' A' F' G' s3 st rx (fz.trans f2)
/-- data handed on -/
theorem PostE.dat {Q : VK} {d : D} (h : PostE K W S σ H Φ A F G Q (.ok (.d d) S)) (st : Stands K S σ H Φ A F1 G) (hF : ∀ b ∈ F1, b ∈ F) (rp : Rp K Φ v d) : Q v H :=
  h v H Φ A [] F1 G ⟨fun _ _ e _ => e, fun _ _ e => e, fun _ _ e => .inl e, fun b hb => .inl (hF b hb), fun _ h => .inl h, fun _ h => h, Pfx.refl⟩ st (RS.dat rp) (by simpa using st.nd) .refl

/-! ### new objects -/
theorem upd_same' {H : Hp} {p : Addr} {o : HO} (h : H p = none) : Same H (upd H p o) := fun b x e => by
  rw [upd_ne (ne_of_none e h)]; exact e
/-- a new list of its own -/
theorem new_list {p : Addr} {vs : List V} {xs : List SV} {U : List Addr} (st : Stands K S σ H Φ A F G) (q : RSs K Φ H A vs xs U) (nd : (U ++ (F ++ G)).Nodup) (hp : H p = none) :
    Step (U ++ F) G H Φ A ((p :: U) ++ F) G (upd H p (.lst vs)) Φ A ∧ Stands K S σ (upd H p (.lst vs)) Φ A F G ∧ RS K Φ (upd H p (.lst vs)) A (.ref p) (.own xs) (p :: U) ∧ ((p :: U) ++ (F ++ G)).Nodup := by
  have no : ∀ b ∈ U ++ (F ++ G), H b ≠ none := fun b hb => by
    rcases List.mem_append.mp hb with hb | hb
    · exact (q.there b hb).1
    · rcases List.mem_append.mp hb with hb | hb
      · exact (st.ro.there b hb).1
      · exact (st.rc.there b hb).1
  have nep : ∀ b ∈ U ++ (F ++ G), b ≠ p := fun b hb e => no b hb (by rw [e]; exact hp)
  have hΦ : Φ p = none := by
    cases e : Φ p with
    | none => rfl
    | some o => have := st.le _ _ e; rw [hp] at this; cases this
  have same : ∀ b ∈ U ++ (F ++ G), upd H p (.lst vs) b = H b := fun b hb => upd_ne (nep b hb)
  refine ⟨⟨fun b o e _ => upd_same' hp _ _ e, fun _ _ e => e, fun _ _ e => .inl e, fun b hb => ?_, fun _ h => .inl h, fun b hb => ?_, Pfx.refl⟩,
    ⟨st.le.trans (upd_same' hp), st.ro.frame (Same.refl _) Pfx.refl (fun b hb => same b (by simp [hb])) (fun b hb => (st.ro.there b hb).2), st.rc.frame (Same.refl _) Pfx.refl (fun b hb => same b (by simp [hb])) (fun b hb => (st.rc.there b hb).2), st.nd⟩,
    .node (n := .lst) upd_same ⟨trivial, trivial⟩ hΦ (q.frame (Same.refl _) Pfx.refl (fun b hb => same b (by simp [hb])) fun b hb => (q.there b hb).2), ?_⟩
  · rcases List.mem_append.mp hb with hb | hb
    · rcases List.mem_cons.mp hb with rfl | hb
      · exact .inr (.inr hp)
      · exact .inl (List.mem_append_left _ hb)
    · exact .inl (List.mem_append_right _ hb)
  · by_cases e : b = p
    · subst e; rw [upd_same]; simp
    · rw [upd_ne e]; exact hb
  · rw [List.cons_append]
    exact List.nodup_cons.mpr ⟨fun hb => nep p hb rfl, nd⟩
/-- a new object, frozen at once -/
theorem new_frz {p : Addr} {o : HO} (st : Stands K S σ H Φ A F G) (hp : H p = none) : Step F G H Φ A F G (upd H p o) (upd Φ p o) A ∧ Stands K S σ (upd H p o) (upd Φ p o) A F G ∧ Same Φ (upd Φ p o) := by
  have hΦ : Φ p = none := by
    cases e : Φ p with
    | none => rfl
    | some o => have := st.le _ _ e; rw [hp] at this; cases this
  have nep : ∀ b ∈ F ++ G, b ≠ p := fun b hb e => by
    subst e
    rcases List.mem_append.mp hb with hb | hb
    · exact (st.ro.there b hb).1 hp
    · exact (st.rc.there b hb).1 hp
  refine ⟨⟨fun b x e _ => upd_same' hp _ _ e, upd_same' hΦ, fun b x e => ?_, fun _ h => .inl h, fun _ h => .inl h, fun b hb => ?_, Pfx.refl⟩,
    ⟨fun b x e => ?_, st.ro.frame (upd_same' hΦ) Pfx.refl (fun b hb => upd_ne (nep b (by simp [hb]))) (fun b hb => by rw [upd_ne (nep b (by simp [hb]))]; exact (st.ro.there b hb).2),
      st.rc.frame (upd_same' hΦ) Pfx.refl (fun b hb => upd_ne (nep b (by simp [hb]))) (fun b hb => by rw [upd_ne (nep b (by simp [hb]))]; exact (st.rc.there b hb).2), st.nd⟩, upd_same' hΦ⟩
  · by_cases h : b = p
    · subst h; exact .inr (.inr (.inr hp))
    · rw [upd_ne h] at e; exact .inl e
  · by_cases e : b = p
    · subst e; rw [upd_same]; simp
    · rw [upd_ne e]; exact hb
  · by_cases h : b = p
    · subst h; rw [upd_same] at e ⊢; exact e
    · rw [upd_ne h] at e ⊢; exact st.le _ _ e

/-! ### many at once -/
theorem RV.step' {F0 G1 F1 : List Addr} (st : Stands K S σ H Φ A F G) (h : RV K Φ H A S σ v r T) (nd : (T ++ (F0 ++ G)).Nodup) (sp : Step F0 G H Φ A F1 G1 H' Φ' A') (fz : Frz S S') : RV K Φ' H' A' S' σ v r T := by
  obtain ⟨k1, k2⟩ := sp.same h.there nd
  cases r with
  | val y => exact RS.frame sp.le sp.cells h k1 k2
  | bor i p =>
    obtain ⟨rfl, v0, e0, hp, hat⟩ := h
    refine ⟨rfl, v0, e0, hp, fun x1 e1 => ?_⟩
    by_cases hp' : p = []
    · subst hp'; rw [hp rfl]; exact .nil
    · obtain ⟨x, e⟩ := fz i p x1 hp' e1
      obtain ⟨x0, e1', e2⟩ := sub_some e
      obtain ⟨v', E1, Ei, E2, e3, e4, q, _⟩ := st.ro.at e1'
      rw [e0] at e3; cases e3
      obtain ⟨u, D1, Dx, D2, a1, a2, a3, a4, _⟩ := RS.sub q e2
      have : u = v := a1.inj (hat x e)
      subst this
      refine a4 hp' fun b hb => ?_
      have hF : b ∈ F := by rw [e4]; simp [hb]
      have hG : b ∉ G := fun z => (List.nodup_append.mp st.nd).2.2 b hF b z rfl
      obtain ⟨h1, _⟩ := st.ro.there b hF
      cases e5 : H b with
      | none => exact absurd e5 h1
      | some o => exact sp.keep b o e5 hG
theorem RVs.step' {F0 F1 G1 : List Addr} (st : Stands K S σ H Φ A F G) (sp : Step F0 G H Φ A F1 G1 H' Φ' A') (fz : Frz S S') :
    ∀ {vs : List V} {rs : List R} {T : List Addr}, RVs K Φ H A S σ vs rs T → (T ++ (F0 ++ G)).Nodup → RVs K Φ' H' A' S' σ vs rs T
  | _, _, _, .nil, _ => .nil
  | _, _, _, .cons q r, nd => .cons (RV.step' st q (nd_left nd) sp fz) (RVs.step' st sp fz r (nd_right nd))
def escs : List R → Sto → Option (List D × Sto)
  | [], S => some ([], S)
  | r :: rs, S => match r.esc S with
    | some (d, S1) => match escs rs S1 with
      | some (ds, S2) => some (d :: ds, S2)
      | none => none
    | none => none
theorem escs_ok : ∀ {vs : List V} {rs : List R} {T : List Addr} {S : Sto} {Φ : Hp} {F : List Addr} {ds : List D}, Stands K S σ H Φ A F G → RVs K Φ H A S σ vs rs T → (T ++ (F ++ G)).Nodup → escs rs S = some (ds, S') →
    ∃ Φ' F', Step (T ++ F) G H Φ A F' G H Φ' A ∧ Stands K S' σ H Φ' A F' G ∧ Rps K Φ' vs ds ∧ Frz S S'
  | _, _, _, S, Φ, F, _, st, .nil, nd, e => by
    cases e
    exact ⟨Φ, F, by rw [List.nil_append]; exact .refl, st, .nil, .refl⟩
  | _, _, _, S, Φ, F, ds, st, .cons (r := r) (rs := rs) (T := T) (U := U) q qs, nd, e => by
    unfold escs at e
    cases e1 : r.esc S with
    | none => rw [e1] at e; cases e
    | some dS =>
      obtain ⟨d, S1⟩ := dS
      rw [e1] at e
      dsimp only at e
      cases e2 : escs rs S1 with
      | none => rw [e2] at e; cases e
      | some dS2 =>
        obtain ⟨ds2, S2⟩ := dS2
        rw [e2] at e; cases e
        obtain ⟨Φ1, F1, sp1, st1, rp1, fz1⟩ := esc_ok st q (nd_left nd) e1
        have nd' : (U ++ ((T ++ F) ++ G)).Nodup := by
          simp only [List.nodup_append, List.mem_append] at nd ⊢; grind
        have qs1 := RVs.step' st sp1 fz1 qs nd'
        have nd1 : (U ++ (F1 ++ G)).Nodup := sp1.apart (fun b hb => (qs.there b hb).1) nd' st1.nd
        obtain ⟨Φ2, F2, sp2, st2, rp2, fz2⟩ := escs_ok st1 qs1 nd1 e2
        refine ⟨Φ2, F2, ⟨fun b o e _ => e, sp1.le.trans sp2.le, fun b o e => ?_, fun b hb => ?_, fun _ h => .inl h, fun _ h => h, Pfx.refl⟩, st2, .cons (rp1.mono sp2.le) rp2, fz1.trans fz2⟩
        · rcases sp2.grow b o e with h | h | h | h
          · rcases sp1.grow b o h with h | h | h | h
            · exact .inl h
            · exact .inr (.inl (by simp only [List.mem_append] at h ⊢; grind))
            · exact .inr (.inr (.inl h))
            · exact .inr (.inr (.inr h))
          · rcases List.mem_append.mp h with h | h
            · exact .inr (.inl (by simp [h]))
            · rcases sp1.ownF b h with h | h | h
              · exact .inr (.inl (by simp only [List.mem_append] at h ⊢; grind))
              · exact .inr (.inr (.inl h))
              · exact .inr (.inr (.inr h))
          · exact .inr (.inr (.inl h))
          · exact .inr (.inr (.inr h))
        · rcases sp2.ownF b hb with h | h | h
          · rcases List.mem_append.mp h with h | h
            · exact .inl (by simp [h])
            · rcases sp1.ownF b h with h | h | h
              · exact .inl (by simp only [List.mem_append] at h ⊢; grind)
              · exact .inr (.inl h)
              · exact .inr (.inr h)
          · exact .inr (.inl h)
          · exact .inr (.inr h)
/-- as a part of a new list: its own, or frozen -/
def R.kid (S : Sto) : R → Option (SV × Sto)
  | .val x => some (x, S)
  | .bor i p => match S.sub i p with
    | some (.cell k) => some (.cell k, S)
    | _ => match (R.bor i p).esc S with
      | some (d, S1) => some (.dat d, S1)
      | none => none
def kids : List R → Sto → Option (List SV × Sto)
  | [], S => some ([], S)
  | r :: rs, S => match r.kid S with
    | some (x, S1) => match kids rs S1 with
      | some (xs, S2) => some (x :: xs, S2)
      | none => none
    | none => none
theorem kid_ok {x : SV} (st : Stands K S σ H Φ A F G) (h : RV K Φ H A S σ v r T) (nd : (T ++ (F ++ G)).Nodup) (e : r.kid S = some (x, S')) :
    ∃ Φ' F', Step F G H Φ A F' G H Φ' A ∧ Stands K S' σ H Φ' A F' G ∧ RS K Φ' H A v x T ∧ Frz S S' := by
  cases r with
  | val y => cases e; exact ⟨Φ, F, .refl, st, h, .refl⟩
  | bor i p =>
    unfold R.kid at e
    dsimp only at e
    have other : ∀ d S1, (R.bor i p).esc S = some (d, S1) → x = .dat d → S' = S1 → ∃ Φ' F', Step F G H Φ A F' G H Φ' A ∧ Stands K S' σ H Φ' A F' G ∧ RS K Φ' H A v x T ∧ Frz S S' := fun d S1 e1 ex eS => by
      subst ex eS
      obtain ⟨Φ1, F1, sp1, st1, rp1, fz1⟩ := esc_ok st h nd e1
      obtain ⟨rfl, _⟩ := h
      exact ⟨Φ1, F1, sp1, st1, .dat rp1, fz1⟩
    cases e0 : S.sub i p with
    | none =>
      rw [e0] at e
      cases e1 : (R.bor i p).esc S with
      | none => rw [e1] at e; cases e
      | some dS => obtain ⟨d, S1⟩ := dS; rw [e1] at e; cases e; exact other _ _ e1 rfl rfl
    | some y =>
      rw [e0] at e
      cases y with
      | cell k =>
        cases e
        obtain ⟨U, q, _⟩ := RV.rs st h (show (R.bor i p).sv S = some (.cell k) from e0)
        obtain ⟨rfl, _⟩ := h
        cases q with
        | cell q => exact ⟨Φ, F, .refl, st, .cell q, .refl⟩
      | dat d0 =>
        cases e1 : (R.bor i p).esc S with
        | none => rw [e1] at e; cases e
        | some dS => obtain ⟨d, S1⟩ := dS; rw [e1] at e; cases e; exact other _ _ e1 rfl rfl
      | node n xs =>
        cases e1 : (R.bor i p).esc S with
        | none => rw [e1] at e; cases e
        | some dS => obtain ⟨d, S1⟩ := dS; rw [e1] at e; cases e; exact other _ _ e1 rfl rfl
theorem kids_ok : ∀ {vs : List V} {rs : List R} {T : List Addr} {S : Sto} {Φ : Hp} {F : List Addr} {xs : List SV}, Stands K S σ H Φ A F G → RVs K Φ H A S σ vs rs T → (T ++ (F ++ G)).Nodup → kids rs S = some (xs, S') →
    ∃ Φ' F', Step F G H Φ A F' G H Φ' A ∧ Stands K S' σ H Φ' A F' G ∧ RSs K Φ' H A vs xs T ∧ Frz S S'
  | _, _, _, S, Φ, F, _, st, .nil, nd, e => by
    cases e
    exact ⟨Φ, F, .refl, st, .nil, .refl⟩
  | _, _, _, S, Φ, F, xs, st, .cons (r := r) (rs := rs) (T := T) (U := U) q qs, nd, e => by
    unfold kids at e
    cases e1 : r.kid S with
    | none => rw [e1] at e; cases e
    | some dS =>
      obtain ⟨x, S1⟩ := dS
      rw [e1] at e
      dsimp only at e
      cases e2 : kids rs S1 with
      | none => rw [e2] at e; cases e
      | some dS2 =>
        obtain ⟨xs2, S2⟩ := dS2
        rw [e2] at e; cases e
        obtain ⟨Φ1, F1, sp1, st1, rs1, fz1⟩ := kid_ok st q (nd_left nd) e1
        have qs1 := RVs.step st sp1 fz1 qs (nd_right nd)
        have nd1 : (U ++ (F1 ++ G)).Nodup := sp1.apart (fun b hb => (qs.there b hb).1) (nd_right nd) st1.nd
        obtain ⟨Φ2, F2, sp2, st2, rs2, fz2⟩ := kids_ok st1 qs1 nd1 e2
        have nd2 : (T ++ (F1 ++ G)).Nodup := sp1.apart (fun b hb => (q.there b hb).1) (nd_left nd) st1.nd
        obtain ⟨k1, k2⟩ := sp2.same (T := T) (fun b hb => RS.there rs1 b hb) nd2
        exact ⟨Φ2, F2, sp1.trans0 sp2, st2, .cons (rs1.frame sp2.le sp2.cells k1 k2) rs2, fz1.trans fz2⟩
end
end L3

namespace L3
open PySem PySem.Spec PyProof.Rows L2

/-! ### items of lists and tuples -/
def dats : List SV → Option (List D)
  | [] => some []
  | .dat d :: r => (dats r).map fun ds => d :: ds
  | _ :: _ => none
/-- the items, each frozen; true of a tuple -/
def R.its (S : Sto) (r : R) : Option (Bool × List D) := match r.sv S with
  | some (.dat (.lst ds)) => some (false, ds)
  | some (.dat (.tup ds)) => some (true, ds)
  | some (.node .lst xs) => match r with
    | .val _ => (peeks xs).map fun ds => (false, ds)
    | .bor _ _ => (dats xs).map fun ds => (false, ds)
  | _ => none
section
variable {K : PySem.W.Frag} {W : WX} {S S' : Sto} {σ : Sl} {H Φ : Hp} {A F G T : List Addr} {v : V} {r : R}
theorem dats_rps {A : List Addr} : ∀ {vs : List V} {xs : List SV} {U : List Addr} {ds : List D}, RSs K Φ H A vs xs U → dats xs = some ds → Rps K Φ vs ds
  | _, _, _, ds, .nil, h => by
    have h : (some [] : Option (List D)) = some ds := by rw [← h]; rfl
    cases h; exact .nil
  | _, _, _, ds, .cons (x := x) (xs := xs) q r, h => by
    cases q with
    | dat q =>
      rename_i d0
      have h : (dats xs).map (fun ds => d0 :: ds) = some ds := by rw [← h]; rfl
      cases e2 : dats xs with
      | none => rw [e2] at h; cases h
      | some es => rw [e2] at h; cases h; exact .cons q (dats_rps r e2)
    | node => cases h
    | cell => cases h
/-- a list or a tuple stands there -/
def SeqV (K : PySem.W.Frag) (H : Hp) (a : Addr) (t : Bool) (vs : List V) : Prop := if t = true then SqT K H a vs else SqL K H a vs
theorem its_ok (st : Stands K S σ H Φ A F G) (h : RV K Φ H A S σ v r T) (nd : (T ++ (F ++ G)).Nodup) {t : Bool} {ds : List D} (e : r.its S = some (t, ds)) :
    ∃ Φ' a vs, v = .ref a ∧ SeqV K H a t vs ∧ Rps K Φ' vs ds ∧ Step (T ++ F) G H Φ A F G H Φ' A ∧ Stands K S σ H Φ' A F G := by
  have stay : Step (T ++ F) G H Φ A F G H Φ A := ⟨fun _ _ e _ => e, fun _ _ e => e, fun _ _ e => .inl e, fun b hb => .inl (List.mem_append_right _ hb), fun _ h => .inl h, fun _ h => h, Pfx.refl⟩
  unfold R.its at e
  cases ex : r.sv S with
  | none => rw [ex] at e; cases e
  | some x =>
    rw [ex] at e
    cases x with
    | cell k => cases e
    | dat d =>
      have rp := RV.dat st h ex
      cases d with
      | lst es =>
        cases e
        cases rp with
        | lst q q2 => exact ⟨Φ, _, _, rfl, sqL_mono st.le q, q2, stay, st⟩
      | tup es =>
        cases e
        cases rp with
        | tup q q2 => exact ⟨Φ, _, _, rfl, sqT_mono st.le q, q2, stay, st⟩
      | _ => cases e
    | node n xs =>
      cases n with
      | lst =>
        cases r with
        | val y =>
          cases ex
          have e : (peeks xs).map (fun ds => (false, ds)) = some (t, ds) := e
          cases e2 : peeks xs with
          | none => rw [e2] at e; cases e
          | some es =>
            rw [e2] at e; cases e
            have hR : RS K Φ H A v (.node .lst xs) T := h
            obtain ⟨s1, s2⟩ := st.frz (RV.there h) nd
            cases hR with
            | node ea f pa q =>
              refine ⟨_, _, _, rfl, .inl (.inl ea), RSs.freeze (fun b hb => (RV.there h b hb).2) q e2 (fun b hb => List.mem_cons_of_mem _ hb), s2, s1⟩
        | bor i p =>
          have e : (dats xs).map (fun ds => (false, ds)) = some (t, ds) := e
          cases e2 : dats xs with
          | none => rw [e2] at e; cases e
          | some es =>
            rw [e2] at e; cases e
            obtain ⟨U, q, _⟩ := RV.rs st h ex
            cases q with
            | node ea f pa q => exact ⟨Φ, _, _, rfl, .inl (.inl ea), dats_rps q e2, stay, st⟩
      | dK ks => cases e
      | dT ks => cases e
      | ins C dx ks => cases e
end

section
variable {X : Cx} {W : WX} {e a b c : Expr} {pos : Pos} {ta tb tc : TE} {fa fb fc : FE}

/-! ### names, constants -/
def fVar (i : Nat) : FE := fun S => match S.ρ[i]? with
  | some (some _) => some (.ok (.bor i []) S)
  | _ => none
theorem de_var (i : Nat) {x : Str} (hN : X.N[i]? = some x := by rfl) (hv : Vis X.env.scope x := by first | exact Or.inl rfl | exact Or.inr (Or.inl rfl) | exact Or.inr (Or.inr rfl)) (hd : (x == ("__debug__" : Str)) = false := by decide)
    (hcd : (x == ("__classdict__" : Str)) = false := by decide) : DE X W (.Name x pos) (tVar i) (fVar i) := by
  refine ⟨pe_var hN hv hd hcd, fun S σ H Φ A F G st out h Q q => ?_⟩
  unfold fVar at h
  cases e : S.ρ[i]? with
  | none => rw [e] at h; cases h
  | some o =>
    cases o with
    | none => rw [e] at h; cases h
    | some x0 =>
      rw [e] at h; cases h
      obtain ⟨v, F1, Fi, F2, e1, e2, r, _⟩ := st.ro.at e
      refine ⟨v, e1, q v H Φ A [] F G .refl st ⟨rfl, v, e1, fun _ => rfl, fun x hx => ?_⟩ (by simpa using st.nd) .refl⟩
      exact .nil
def fC (d : D) : FE := fun S => some (.ok (.d d) S)
theorem ev_c {K : PySem.W.Frag} {v : V} {d : D} (h : ∀ H, Rp K H v d) : EV K W (tC v) (fC d) := fun S σ H Φ A F G st out ho Q q => by
  cases ho
  exact PostE.dat q st (fun _ hb => hb) (h _)
theorem de_int {i : Int} {j} : DE X W (.Constant (.int i) j pos) (tC (.int i)) (fC (.int i)) := ⟨pe_int, ev_c fun _ => .int i⟩
theorem de_bl {i : Bool} {j} : DE X W (.Constant (.bool i) j pos) (tC (.bl i)) (fC (.bl i)) := ⟨pe_bl, ev_c fun _ => .bl i⟩
theorem de_non {j} : DE X W (.Constant .none j pos) (tC .non) (fC .non) := ⟨pe_non, ev_c fun _ => .non⟩
theorem de_str {x : Str} {j} : DE X W (.Constant (.str x) j pos) (tC (.str x)) (fC (.str x)) := ⟨pe_str, ev_c fun _ => .str x⟩
/-- a constant of the module -/
theorem de_glob {x : Str} {v : V} {u : Value} {d : D} (hm : X.mg x = some u) (r : RelV v u) (hr : ∀ H, Rp X.K H v d) (hg : Gl X x := by rfl) (hd : (x == ("__debug__" : Str)) = false := by decide) : DE X W (.Name x pos) (tC v) (fC d) := ⟨pe_glob hg hm r hd, ev_c hr⟩

/-! ### operators on two values -/
/-- what an operator does with two results -/
abbrev G2 := R → R → Sto → Option (R × Sto)
def OpG (K : PySem.W.Frag) (r : R2) (g : G2) : Prop :=
  ∀ S σ H Φ A F G x y ra rb T U, Stands K S σ H Φ A F G → RV K Φ H A S σ x ra T → RV K Φ H A S σ y rb U → (T ++ (U ++ (F ++ G))).Nodup → ∀ rz S', g ra rb S = some (rz, S') →
    ∀ Q, (∀ v H' Φ' A' V F' G', Step (T ++ (U ++ F)) G H Φ A (V ++ F') G' H' Φ' A' → Stands K S' σ H' Φ' A' F' G' → RV K Φ' H' A' S' σ v rz V → (V ++ (F' ++ G')).Nodup → Frz S S' → Q v H') → r x y H Q
theorem OpG.or {K : PySem.W.Frag} {r r' : R2} {g g' : G2} (h : OpG K r g) (h' : OpG K r' g') : OpG K (fun x y H Q => r x y H Q ∨ r' x y H Q) (fun ra rb S => (g ra rb S).orElse fun _ => g' ra rb S) := by
  intro S σ H Φ A F G x y ra rb T U st rx ry nd rz S' e Q q
  have e : (g ra rb S).orElse (fun _ => g' ra rb S) = some (rz, S') := e
  cases e1 : g ra rb S with
  | some z =>
    rw [e1] at e
    have e : some z = some (rz, S') := e
    cases e
    exact .inl (h S σ H Φ A F G x y ra rb T U st rx ry nd rz S' e1 Q q)
  | none =>
    rw [e1] at e
    exact .inr (h' S σ H Φ A F G x y ra rb T U st rx ry nd rz S' e Q q)
def fBin (g : G2) (fa fb : FE) : FE := bindE fa fun ra => bindE fb fun rb S => (g ra rb S).map fun z => .ok z.1 z.2
theorem ev_bin {K : PySem.W.Frag} {r : R2} {g : G2} (hg : OpG K r g) (ha : EV K W ta fa) (hb : EV K W tb fb) : EV K W (tOp r ta tb) (fBin g fa fb) := fun S σ H Φ A F G st out h Q q => by
  refine run2 ha hb st h q.x fun ra rb S1 x y H1 Φ1 A1 T U F1 G1 sp st1 rx ry nd fz h1 => ?_
  cases e : g ra rb S1 with
  | none => rw [e] at h1; cases h1
  | some z =>
    obtain ⟨rz, S'⟩ := z
    rw [e] at h1; cases h1
    refine hg S1 σ H1 Φ1 A1 F1 G1 x y ra rb T U st1 rx ry nd rz S' e Q fun v H' Φ' A' V F' G' s2 st2 rv nd2 f2 => ?_
    exact q v H' Φ' A' V F' G' (Step.trans (T := []) (T1 := V) (F1 := T ++ (U ++ F1)) sp s2) st2 rv nd2 (fz.trans f2)
theorem de_bin {op : Operator} {r : R2} {g : G2} (ho : OpR X (binaryOp op) r) (hg : OpG X.K r g) (ha : DE X W a ta fa) (hb : DE X W b tb fb) : DE X W (.BinOp a op b pos) (tOp r ta tb) (fBin g fa fb) :=
  ⟨pe_op ho ha.pe hb.pe, ev_bin hg ha.ev hb.ev⟩
theorem de_cmp {op : CmpOp} {r : R2} {g : G2} (ho : OpR X (compareOp op) r) (hg : OpG X.K r g) (ha : DE X W a ta fa) (hb : DE X W b tb fb) (hm : behindInMarks op b = false := by rfl) : DE X W (.Compare a [op] [b] pos) (tOp r ta tb) (fBin g fa fb) :=
  ⟨pe_cmpR ho ha.pe hb.pe hm, ev_bin hg ha.ev hb.ev⟩
/-- the truth value that a result is -/
def R.bl (S : Sto) (r : R) : Option Bool := match r.sv S with
  | some (.dat (.bl b)) => some b
  | _ => none
theorem RV.bl {K : PySem.W.Frag} {S : Sto} {σ : Sl} {H Φ : Hp} {A F G T : List Addr} {v : V} {r : R} (st : Stands K S σ H Φ A F G) (h : RV K Φ H A S σ v r T) {b : Bool} (e : r.bl S = some b) : v = .bl b := by
  unfold R.bl at e
  cases ex : r.sv S with
  | none => rw [ex] at e; cases e
  | some x =>
    rw [ex] at e
    cases x with
    | dat d =>
      cases d with
      | bl c =>
        cases e
        cases RV.dat st h ex
        rfl
      | _ => cases e
    | _ => cases e
def fTest (f : FE) : FT := bindE f fun r S => (r.bl S).map fun b => .ok b S
theorem ev_test {K : PySem.W.Frag} {t : TE} {f : FE} (h : EV K W t f) : EVT K W (tTest t) (fTest f) := fun S σ H Φ A F G st out ho Q q => by
  refine run1 h st ho q.x fun r S1 v H1 Φ1 A1 T F1 G1 sp st1 rv nd fz h1 => ?_
  cases e : r.bl S1 with
  | none => rw [e] at h1; cases h1
  | some b =>
    rw [e] at h1; cases h1
    exact ⟨b, rv.bl st1 e, q H1 Φ1 A1 F1 G1 sp.drop st1 fz⟩
theorem dt_cmp {op : CmpOp} {r : R2} {g : G2} (ho : OpR X (compareOp op) r) (hg : OpG X.K r g) (ha : DE X W a ta fa) (hb : DE X W b tb fb) (hm : behindInMarks op b = false := by rfl) : DT X W (.Compare a [op] [b] pos) (tTest (tOp r ta tb)) (fTest (fBin g fa fb)) :=
  ⟨pt_cmpR ho ha.pe hb.pe hm, ev_test (ev_bin hg ha.ev hb.ev)⟩
theorem dt_val (h : DE X W e ta fa) (he : ∀ whole, isTrue e X.env whole = (do let v ← whole; standAt e.pos; holding [v] (truthy v)) := by intro _; rfl) : DT X W e (tB ta) (fTest fa) :=
  ⟨pt_val h.pe he, ev_test h.ev⟩

/-! ### scalars by their values -/
/-- of two data another one, no heap in sight -/
def g2 (g : D → D → Option D) : G2 := fun ra rb S => match ra.peek S, rb.peek S with
  | some x, some y => (g x y).map fun z => (.d z, S)
  | _, _ => none
theorem opG_scal {K : PySem.W.Frag} {r : R2} {g : D → D → Option D} (h : ∀ H x y dx dy z, Rp K H x dx → Rp K H y dy → g dx dy = some z → ∀ Q, (∀ v, (∀ H', Rp K H' v z) → Q v H) → r x y H Q) : OpG K r (g2 g) := by
  intro S σ H Φ A F G x y ra rb T U st rx ry nd rz S' e Q q
  unfold g2 at e
  cases e1 : ra.peek S with
  | none => rw [e1] at e; cases e
  | some dx =>
    cases e2 : rb.peek S with
    | none => rw [e1, e2] at e; cases e
    | some dy =>
      rw [e1, e2] at e
      cases e3 : g dx dy with
      | none => simp only [e3] at e; cases e
      | some z =>
        simp only [e3] at e
        cases e
        refine h H x y dx dy z (rx.rp st e1) (ry.rp st e2) e3 Q fun v hv => ?_
        exact q v H Φ A [] F G ⟨fun _ _ e _ => e, fun _ _ e => e, fun _ _ e => .inl e, fun b hb => .inl (by simp only [List.nil_append] at hb; simp [hb]), fun _ h => .inl h, fun _ h => h, Pfx.refl⟩ st (RS.dat (hv _)) (by simpa using st.nd) .refl
def dI (f : Int → Int → Option D) : D → D → Option D
  | .int i, .int j => f i j
  | _, _ => none
theorem opG_int {K : PySem.W.Frag} {C : Int → Int → Prop} {f : Int → Int → V} {g : Int → Int → Option D} (h : ∀ i j z, g i j = some z → C i j ∧ ∀ H, Rp K H (f i j) z) : OpG K (rI C f) (g2 (dI g)) := opG_scal fun H x y dx dy z rx ry e Q q => by
  cases rx <;> try cases e
  cases ry <;> try cases e
  obtain ⟨c, r⟩ := h _ _ _ e
  exact ⟨_, _, rfl, rfl, c, q _ r⟩
theorem opG_int0 {K : PySem.W.Frag} {f : Int → Int → V} {g : Int → Int → Option D} (h : ∀ i j z, g i j = some z → ∀ H, Rp K H (f i j) z) : OpG K (rI0 f) (g2 (dI g)) := opG_scal fun H x y dx dy z rx ry e Q q => by
  cases rx <;> try cases e
  cases ry <;> try cases e
  exact ⟨_, _, rfl, rfl, q _ (h _ _ _ e)⟩
def iAdd : Int → Int → Option D := fun i j => some (.int (i + j))
def iSub : Int → Int → Option D := fun i j => some (.int (i - j))
def iMul : Int → Int → Option D := fun i j => if (-(2 ^ 64) < i ∧ i < 2 ^ 64) ∨ (-(2 ^ 64) < j ∧ j < 2 ^ 64) then some (.int (i * j)) else none
def iDiv : Int → Int → Option D := fun i j => if 0 < j ∧ j < 1073741824 then some (.int (i / j)) else none
def iMod : Int → Int → Option D := fun i j => if 0 < j then some (.int (i % j)) else none
def iPow : Int → Int → Option D := fun i j => if 0 ≤ j ∧ j ≤ 1000000 ∧ i.natAbs < 2 ^ 64 then some (.int (i ^ j.toNat)) else none
def iCmp (p : Int → Int → Bool) : Int → Int → Option D := fun i j => some (.bl (p i j))
theorem og_sub {K : PySem.W.Frag} : OpG K (rI0 fun i j => .int (i - j)) (g2 (dI iSub)) := opG_int0 fun i j z e H => by cases e; exact .int _
theorem og_div {K : PySem.W.Frag} : OpG K (rI CDiv fun i j => .int (i / j)) (g2 (dI iDiv)) := opG_int fun i j z e => by
  unfold iDiv at e; split at e
  · cases e; exact ⟨by assumption, fun H => .int _⟩
  · cases e
theorem og_mod {K : PySem.W.Frag} : OpG K (rI (fun _ j => 0 < j) fun i j => .int (i % j)) (g2 (dI iMod)) := opG_int fun i j z e => by
  unfold iMod at e; split at e
  · cases e; exact ⟨by assumption, fun H => .int _⟩
  · cases e
theorem og_pow {K : PySem.W.Frag} : OpG K (rI CPow fun i j => .int (i ^ j.toNat)) (g2 (dI iPow)) := opG_int fun i j z e => by
  unfold iPow at e; split at e
  · cases e; exact ⟨by assumption, fun H => .int _⟩
  · cases e
theorem og_icmp {K : PySem.W.Frag} {p : Int → Int → Bool} : OpG K (rI0 fun i j => .bl (p i j)) (g2 (dI (iCmp p))) := opG_int0 fun i j z e H => by cases e; exact .bl _

/-! ### truth -/
def truD : D → Option Bool
  | .non => some false
  | .bl b => some b
  | .int i => some (i != 0)
  | .str x => if x.length ≤ sizeLine then some ((x.length : Int) != 0) else none
  | .lst ds => some (!ds.isEmpty)
  | .tup ds => some (!ds.isEmpty)
  | .dK ks ds => some (!(ks.zip ds).isEmpty)
  | _ => none
theorem zip_empty {α β γ : Type} : ∀ {ks : List α} {vs : List β} {ds : List γ}, vs.length = ds.length → (!(ks.zip vs).isEmpty) = !(ks.zip ds).isEmpty
  | [], _, _, _ => rfl
  | _ :: _, [], [], _ => rfl
  | _ :: _, _ :: _, _ :: _, _ => rfl
  | _ :: _, [], _ :: _, h => by simp at h
  | _ :: _, _ :: _, [], h => by simp at h
theorem sqL_of_rd {K : PySem.W.Frag} {H : Hp} {a : Addr} {xs : List V} (h : Rd H a (.lst xs)) : SqL K H a xs := .inl h
theorem isEmpty_rps {K : PySem.W.Frag} {H : Hp} {vs : List V} {ds : List D} (h : Rps K H vs ds) : (!vs.isEmpty) = !ds.isEmpty := by cases h <;> rfl
/-- a result's truth; of a dict, an owned or a frozen one not locked -/
def R.tru (S : Sto) (r : R) : Option Bool := match r.sv S with
  | some (.dat (.dK _ _)) => none
  | some x => x.peek.bind truD
  | none => none
theorem RV.tru {K : PySem.W.Frag} {S : Sto} {σ : Sl} {H Φ : Hp} {A F G T : List Addr} {v : V} {r : R} (st : Stands K S σ H Φ A F G) (h : RV K Φ H A S σ v r T) {k : Bool} (e : r.tru S = some k) : TruV K v H k := by
  unfold R.tru at e
  cases ex : r.sv S with
  | none => rw [ex] at e; cases e
  | some x =>
    obtain ⟨U, q, _⟩ := RV.rs st h ex
    rw [ex] at e
    cases x with
    | cell k => cases e
    | dat d =>
      cases q with
      | dat q =>
        cases d with
        | dK ks ds => cases e
        | dT ks ds => cases e
        | fn f => cases e
        | non => cases e; cases q; rfl
        | bl b => cases e; cases q; rfl
        | int i => cases e; cases q; rfl
        | str x =>
          have e : (if x.length ≤ sizeLine then some ((x.length : Int) != 0) else none) = some k := e
          split at e
          · cases e; cases q; exact ⟨by assumption, rfl⟩
          · cases e
        | lst ds =>
          cases e
          cases q with
          | lst q q2 => exact .inl ⟨_, sqL_mono st.le q, (isEmpty_rps q2).symm⟩
        | tup ds =>
          cases e
          cases q with
          | tup q q2 => exact .inr (.inl ⟨_, sqT_mono st.le q, (isEmpty_rps q2).symm⟩)
    | node n xs =>
      cases q with
      | node ea f pa q =>
        cases n with
        | lst =>
          have e : ((peeks xs).map D.lst).bind truD = some k := e
          cases e2 : peeks xs with
          | none => rw [e2] at e; cases e
          | some ds =>
            rw [e2] at e; cases e
            exact .inl ⟨_, .inl (.inl ea), (isEmpty_rps (RSs.rp st.le q e2)).symm⟩
        | dK ks =>
          have e : ((peeks xs).map (D.dK ks)).bind truD = some k := e
          cases e2 : peeks xs with
          | none => rw [e2] at e; cases e
          | some ds =>
            rw [e2] at e; cases e
            exact .inr (.inr ⟨_, ea, (zip_empty (RSs.rp st.le q e2).length).symm⟩)
        | dT ks =>
          have e : ((peeks xs).map (D.dT ks)).bind truD = some k := e
          cases e2 : peeks xs <;> rw [e2] at e <;> cases e
        | ins C dx ks => cases e
def fTru (f : FE) : FT := bindE f fun r S => (r.tru S).map fun b => .ok b S
theorem dt_truth (h : DE X W e ta fa) (he : ∀ whole, isTrue e X.env whole = (do let v ← whole; standAt e.pos; holding [v] (truthy v)) := by intro _; rfl) : DT X W e (fun σ H Q => ta σ H fun x H' => ∃ k, TruV X.K x H' k ∧ Q k H') (fTru fa) := by
  refine ⟨pt_truth h.pe he, fun S σ H Φ A F G st out ho Q q => ?_⟩
  refine run1 h.ev st ho q.x fun r S1 v H1 Φ1 A1 T F1 G1 sp st1 rv nd fz h1 => ?_
  cases e1 : r.tru S1 with
  | none => rw [e1] at h1; cases h1
  | some b =>
    rw [e1] at h1; cases h1
    exact ⟨b, rv.tru st1 e1, q H1 Φ1 A1 F1 G1 sp.drop st1 fz⟩

/-! ### and, or, not; one of two -/
variable {tA tB' : TT} {fA fB : FT} {rest : List Expr}
def fAnd (fa fb : FT) : FT := bindE fa fun c => if c = true then fb else retE false
def fOr (fa fb : FT) : FT := bindE fa fun c => if c = true then retE true else fb
def fNot (fa : FT) : FT := bindE fa fun c => retE (!c)
def fIfE (fc : FT) (fa fb : FE) : FE := bindE fc fun c => if c = true then fa else fb
theorem evt_at {K : PySem.W.Frag} {S S1 : Sto} {σ : Sl} {H Φ H1 Φ1 : Hp} {A A1 F G F1 G1 : List Addr} {out : Out Bool} {Q : Bool → Hp → Prop} (q : PostT K W S σ H Φ A F G Q out) (sp : Step F G H Φ A F1 G1 H1 Φ1 A1) (fz : Frz S S1) : PostT K W S1 σ H1 Φ1 A1 F1 G1 Q out := by
  cases out with
  | ok b S' => exact fun H' Φ' A' F' G' s2 st f2 => q H' Φ' A' F' G' (sp.trans0 s2) st (fz.trans f2)
  | exc e S' => exact fun c d H' Φ' A' F' G' s2 st rx f2 => q c d H' Φ' A' F' G' (sp.trans0 s2) st rx (fz.trans f2)
theorem ev_and {K : PySem.W.Frag} {t u : TT} {fa fb : FT} (ha : EVT K W t fa) (hb : EVT K W u fb) : EVT K W (tAnd t u) (fAnd fa fb) := fun S σ H Φ A F G st out ho Q q => by
  refine runT (t := t) ha st ho q.x fun b S1 H1 Φ1 A1 F1 G1 sp st1 fz h1 => ?_
  cases b with
  | true => rw [if_pos rfl] at h1 ⊢; exact hb S1 σ H1 Φ1 A1 F1 G1 st1 out h1 Q (evt_at q sp fz)
  | false => rw [if_neg (by decide)] at h1 ⊢; cases h1; exact q H1 Φ1 A1 F1 G1 sp st1 fz
theorem ev_or {K : PySem.W.Frag} {t u : TT} {fa fb : FT} (ha : EVT K W t fa) (hb : EVT K W u fb) : EVT K W (tOr t u) (fOr fa fb) := fun S σ H Φ A F G st out ho Q q => by
  refine runT (t := t) ha st ho q.x fun b S1 H1 Φ1 A1 F1 G1 sp st1 fz h1 => ?_
  cases b with
  | true => rw [if_pos rfl] at h1 ⊢; cases h1; exact q H1 Φ1 A1 F1 G1 sp st1 fz
  | false => rw [if_neg (by decide)] at h1 ⊢; exact hb S1 σ H1 Φ1 A1 F1 G1 st1 out h1 Q (evt_at q sp fz)
theorem dw_and1 (h : DT X W a tA fA) : DW X W (.BoolOp .And [a] pos) tA fA := ⟨pw_and1 h.pe, h.ev⟩
theorem dw_or1 (h : DT X W a tA fA) : DW X W (.BoolOp .Or [a] pos) tA fA := ⟨pw_or1 h.pe, h.ev⟩
theorem dw_and (h : DT X W a tA fA) (h2 : DW X W (.BoolOp .And (b :: rest) pos) tB' fB) : DW X W (.BoolOp .And (a :: b :: rest) pos) (tAnd tA tB') (fAnd fA fB) := ⟨pw_and h.pe h2.pe, ev_and h.ev h2.ev⟩
theorem dw_or (h : DT X W a tA fA) (h2 : DW X W (.BoolOp .Or (b :: rest) pos) tB' fB) : DW X W (.BoolOp .Or (a :: b :: rest) pos) (tOr tA tB') (fOr fA fB) := ⟨pw_or h.pe h2.pe, ev_or h.ev h2.ev⟩
theorem DW.dt (h : DW X W e tA fA) : DT X W e tA fA := ⟨h.pe.pt, h.ev⟩
theorem dt_not (h : DT X W a tA fA) : DT X W (.UnaryOp .Not a pos) (tNot tA) (fNot fA) := ⟨pt_not h.pe, fun S σ H Φ A F G st out ho Q q => by
  refine runT (t := tA) h.ev st ho q.x fun b S1 H1 Φ1 A1 F1 G1 sp st1 fz h1 => ?_
  cases h1
  exact q H1 Φ1 A1 F1 G1 sp st1 fz⟩
theorem PostE.at0 {K : PySem.W.Frag} {S S1 : Sto} {σ : Sl} {H Φ H1 Φ1 : Hp} {A A1 F G F1 G1 : List Addr} {out : Out R} {Q : VK} (q : PostE K W S σ H Φ A F G Q out) (sp : Step F G H Φ A F1 G1 H1 Φ1 A1) (fz : Frz S S1) : PostE K W S1 σ H1 Φ1 A1 F1 G1 Q out := PostE.at (T := []) q sp fz
theorem de_ifE (hc : DT X W c tA fA) (ha : DE X W a ta fa) (hb : DE X W b tb fb) : DE X W (.IfExp c a b pos) (tIf tA ta tb) (fIfE fA fa fb) := ⟨pe_ifExp hc.pe ha.pe hb.pe, fun S σ H Φ A F G st out ho Q q => by
  refine runT hc.ev st ho q.x fun b S1 H1 Φ1 A1 F1 G1 sp st1 fz h1 => ?_
  cases b with
  | true => rw [if_pos rfl] at h1 ⊢; exact ha.ev S1 σ H1 Φ1 A1 F1 G1 st1 out h1 Q (q.at0 sp fz)
  | false => rw [if_neg (by decide)] at h1 ⊢; exact hb.ev S1 σ H1 Φ1 A1 F1 G1 st1 out h1 Q (q.at0 sp fz)⟩
/-- x or y, x and y as values, by truth -/
def fOrV (fa fb : FE) : FE := bindE fa fun r S => match r.tru S with
  | some true => some (.ok r S)
  | some false => fb S
  | none => none
def fAndV (fa fb : FE) : FE := bindE fa fun r S => match r.tru S with
  | some true => fb S
  | some false => some (.ok r S)
  | none => none
def fNotV (fa : FE) : FE := bindE fa fun r S => (r.tru S).map fun k => .ok (.b (!k)) S
theorem de_orV (ha : DE X W a ta fa) (hb : DE X W (.BoolOp .Or (b :: rest) pos) tb fb) : DE X W (.BoolOp .Or (a :: b :: rest) pos) (tOrT X.K ta tb) (fOrV fa fb) := ⟨pe_orT ha.pe hb.pe, fun S σ H Φ A F G st out ho Q q => by
  refine run1 (t := ta) ha.ev st ho q.x fun r S1 v H1 Φ1 A1 T F1 G1 sp st1 rv nd fz h1 => ?_
  cases e : r.tru S1 with
  | none => rw [e] at h1; cases h1
  | some k =>
    rw [e] at h1
    refine ⟨k, rv.tru st1 e, ?_⟩
    cases k with
    | true => rw [if_pos rfl]; cases h1; exact q v H1 Φ1 A1 T F1 G1 sp st1 rv nd fz
    | false => rw [if_neg (by decide)]; exact hb.ev S1 σ H1 Φ1 A1 F1 G1 st1 out h1 Q (q.at0 sp.drop fz)⟩
theorem de_andV (ha : DE X W a ta fa) (hb : DE X W (.BoolOp .And (b :: rest) pos) tb fb) : DE X W (.BoolOp .And (a :: b :: rest) pos) (tAndT X.K ta tb) (fAndV fa fb) := ⟨pe_andT ha.pe hb.pe, fun S σ H Φ A F G st out ho Q q => by
  refine run1 (t := ta) ha.ev st ho q.x fun r S1 v H1 Φ1 A1 T F1 G1 sp st1 rv nd fz h1 => ?_
  cases e : r.tru S1 with
  | none => rw [e] at h1; cases h1
  | some k =>
    rw [e] at h1
    refine ⟨k, rv.tru st1 e, ?_⟩
    cases k with
    | true => rw [if_pos rfl]; exact hb.ev S1 σ H1 Φ1 A1 F1 G1 st1 out h1 Q (q.at0 sp.drop fz)
    | false => rw [if_neg (by decide)]; cases h1; exact q v H1 Φ1 A1 T F1 G1 sp st1 rv nd fz⟩
theorem de_one {op : BoolOp} (h : DE X W a ta fa) : DE X W (.BoolOp op [a] pos) ta fa := ⟨pe_one h.pe, h.ev⟩
theorem de_notV (ha : DE X W a ta fa) : DE X W (.UnaryOp .Not a pos) (tNotT X.K ta) (fNotV fa) := ⟨pe_notT ha.pe, fun S σ H Φ A F G st out ho Q q => by
  refine run1 (t := ta) ha.ev st ho q.x fun r S1 v H1 Φ1 A1 T F1 G1 sp st1 rv nd fz h1 => ?_
  cases e : r.tru S1 with
  | none => rw [e] at h1; cases h1
  | some k =>
    rw [e] at h1; cases h1
    exact ⟨k, rv.tru st1 e, q _ H1 Φ1 A1 [] F1 G1 (by simpa using sp.drop) st1 (RS.dat (.bl _)) (by simpa using st1.nd) fz⟩⟩
end
end L3

namespace L3
open PySem PySem.Spec PyProof.Rows L2

/-! ### calls of the text's own defs, where nothing is being shown (repr) -/
/-- as FnOk, its caller known to show nothing -/
structure FG (P : Program) (w : World) (K : PySem.W.Frag) (mg : Str → Option Value) (base : Heap) (k : Nat) (f : Addr) (fd : FuncData) (ps : List Str) (sp : Sp) : Prop where
  len : ∀ vs H Q E, sp vs H Q E → vs.length = ps.length
  go : ∀ (A : Around) (outer : List Env) (s : Shared) (H : Hp) (args : Args) (us : List Value) (vs : List V) (Q : VK) (E : XK), Room k A → A.guards = some [] →
    Env0 P w K mg base A outer s H → BindsTo s fd args (ps.zip us) → Vals vs us → sp vs H Q E → codeAny (model P w) A (.call (.ref f) args) (CR (L2.CX P w) outer P w H s Q E) s
section
variable {P : Program} {w : World} {K : PySem.W.Frag} {mg : Str → Option Value} {base : Heap}
theorem FG.mono {j k : Nat} {f : Addr} {fd : FuncData} {ps : List Str} {sp : Sp} (h : FG P w K mg base j f fd ps sp) (le : j ≤ k) : FG P w K mg base k f fd ps sp :=
  ⟨h.len, fun A o s H ar us vs Q E r => h.go A o s H ar us vs Q E (r.mono le)⟩
/-- by its body -/
theorem fg_of {x qual : Str} {st : Stmt} {f : Addr} {fd : FuncData} {N ps : List Str} {k : Nat} {sp : Sp} (T : Fun K x qual st f fd) (C : FnScope N ps (defScope st)) (len : ∀ vs H Q E, sp vs H Q E → vs.length = ps.length)
    (body : ∀ (cdv : Value) (A : Around) (outer : List Env) (s : Shared) (H : Hp) (vs : List V) (Q : VK) (E : XK), Room k (A.deeper (envOfC qual (defScope st) s.heap.objs.size f cdv)) → A.guards = some [] → sp vs H Q E →
      ∃ t, PSs (cxOf (L2.CX P w) P w K mg base N qual (defScope st) f cdv A outer s H E) (defBody st) t ∧ t { nx := fun _ H' => Q .non H', rt := Q } (start N vs) H) : FG P w K mg base (k + 1) f fd ps sp := by
  obtain ⟨oc, od, kV, doc, pm, an, cdv, ct, osl, e, lk, ck⟩ := T.ex
  subst e
  refine ⟨len, fun A outer s H args us vs Q E room gd e0 bd rel want => ?_⟩
  have kx : K.In s.heap := e0.mod.kin.keeps (fun b o q => (e0.bs b o q).1)
  have nl : s.heap.NoLimit := e0.mod.nolimit.keeps (fun b o q => (e0.bs b o q).1)
  have many := len vs H Q E want
  have kinds : ∀ y, y ∈ ps.zip us → (defScope st).names.lookup y.1 = some .local ∨ ((defScope st).names.lookup y.1 = some .cell ∧ ((cellsFrom (s.heap.objs.size + 1) (defScope st).names []).lookup y.1).isSome = true) := by
    rintro ⟨n, u⟩ hy
    have hn : n ∈ ps := (List.of_mem_zip hy).1
    exact (C.par n hn).imp id (fun q => ⟨q, PySem.W.cellsFrom_some _ _ _ (Or.inl q)⟩)
  apply codeAny_call_function (Room.depth room) (kx f _ lk) rfl C.co C.gen rfl (PySem.W.codeRec_of kx ck)
  refine bd _ _ _ _ (wpAny_newFunctionEnv_cells C.kind kinds (fun en ee s1 xx => ?_))
  cases ee
  refine ⟨nl.keeps xx.toInCall.keep, ?_⟩
  apply codeAny_func
  obtain ⟨t, pt, tq⟩ := body cdv A outer s H vs Q E (Room.deeper room _) gd want
  have iv := inv_start (CX := L2.CX P w) (N := N) (E := E) C (Room.hd room) e0 many rel xx
  have endOf : ∀ {σ' : Sl} {H' : Hp} {v : V} {u : Value} {s' : Shared}, Inv (cxOf (L2.CX P w) P w K mg base N qual (defScope st) f cdv A outer s H E) [] σ' H' s' → RelV v u → Q v H' → CE outer P w H s Q u s' := by
    intro σ' H' v u s' j rv qv
    exact ⟨v, H', j.os, j.bare, j.base, j.hok, rv, qv⟩
  refine wpAny_mono (pt.run [] s1 (start N vs) H _ iv tq) ?_ (fun _ _ q => q)
  intro fl s' post
  match fl, post with
  | .ret u, ⟨v, σ', H', j, rv, qv⟩ => exact endOf j rv qv
  | .next, ⟨σ', H', j, qv⟩ => exact endOf (v := V.non) (u := Value.none) j rfl qv
  | .brk, ⟨_, _, _, z⟩ => exact z.elim
  | .cont, ⟨_, _, _, z⟩ => exact z.elim
end

section
variable {X : Cx} {k : Nat} {f : Addr} {fd : FuncData} {ps : List Str} {sp : Sp} {W : WX} {x : Str} {p pos : Pos} {e : Expr} {es : List Expr} {t : TA} {ds : List Value} {dvs : List V}
theorem go_fn {pins : List (Addr × Obj)} {σ : Sl} {H : Hp} {s : Shared} {Q : VK} {us : List Value} {vs : List V} (h : FG X.prog X.w X.K X.mg X.base k f fd ps sp) (room : Room k X.A) (gd : X.A.guards = some []) (bd : Binds X.K fd ps ds) (dd : Vals dvs ds) (tk : Takes X W)
    (I : Inv X pins σ H s) (rel : Vals vs us) (want : sp (vs ++ dvs) H Q (WE W σ)) : wpAny (model X.prog X.w) X.A (call (.ref f) us) (EP X pins σ Q) X.xe s := by
  have rel2 := rel.append dd
  have many : (us ++ ds).length = ps.length := rel2.length.symm.trans (h.len _ _ _ _ want)
  apply wpAny_call
  refine codeAny_mono (h.go X.A X.stack s H ⟨us, []⟩ (us ++ ds) (vs ++ dvs) Q (WE W σ) room gd I.env0 (bd s us I.kIn many) rel2 want) ?_
  intro r s' post
  match r, post with
  | .error e, z => exact passAt tk σ pins H s e s' I z
  | .ok (.ret u), z => exact I.after z
  | .ok .next, z => exact z.elim
  | .ok .brk, z => exact z.elim
  | .ok .cont, z => exact z.elim
def tGo (W : WX) (sp : Sp) (dvs : List V) (t : TA) : TE := fun σ H Q => t σ H fun vs H1 => sp (vs ++ dvs) H1 Q (WE W σ)
theorem pe_go (h : FG X.prog X.w X.K X.mg X.base k f fd ps sp) (room : Room k X.A) (gd : X.A.guards = some []) (hg : Gl X x) (hm : X.mg x = some (.ref f)) (hk : PySem.W.keepIn X.K (.ref f) = true) (bd : Binds X.K fd ps ds) (dd : Vals dvs ds) (tk : Takes X W)
    (ha : PA X (e :: es) t) (hdb : (x == ("__debug__" : Str)) = false := by decide) (he : starEach (e :: es) X.env = (false, eval e X.env) :: starEach es X.env := by rfl) (hpl : (backTo pos (starEach es X.env)).any (·.1) = false := by rfl) : PE X (.Call (.Name x p) (e :: es) [] pos) (tGo W sp dvs t) :=
  ⟨fun pins s σ H Q I want => wpAny_Call_Name_kw (ld_glob I hg hm (PySem.W.callWith_K (h₀ := X.base) I.ok.mod.kin hk (thn (ha.run pos pins s σ H _ I want) fun us s1 ⟨vs, H1, I1, rel, w1⟩ => ⟨I1.kIn, go_fn h room gd bd dd tk I1 rel w1⟩) he hpl) hdb)⟩
theorem pe_go0 (h : FG X.prog X.w X.K X.mg X.base k f fd ps sp) (room : Room k X.A) (gd : X.A.guards = some []) (hg : Gl X x) (hm : X.mg x = some (.ref f)) (hk : PySem.W.keepIn X.K (.ref f) = true) (bd : Binds X.K fd ps ds) (dd : Vals dvs ds) (tk : Takes X W)
    (hdb : (x == ("__debug__" : Str)) = false := by decide) : PE X (.Call (.Name x p) [] [] pos) (tGo W sp dvs tNil) :=
  ⟨fun pins s σ H Q I want => wpAny_Call_Name_kw (ld_glob I hg hm (PySem.W.callWith_K0 I.kIn hk (go_fn (us := []) h room gd bd dd tk I .nil want)) hdb)⟩
end

/-! ### what a def does to data -/
inductive Res where
  | ok (x : SV) (μ : List SV) | exc (e : Ex) (μ : List SV)
/-- a def as a function of its arguments (data, cells) and the cells -/
abbrev FnS := List SV → List SV → Option Res
def PostF (K : PySem.W.Frag) (H Φ : Hp) (A G : List Addr) (Q : VK) (E : XK) : Res → Prop
  | .ok x μ => ∀ v H' Φ' A' T G', Step [] G H Φ A T G' H' Φ' A' → Stands K ⟨[], μ⟩ [] H' Φ' A' [] G' → RS K Φ' H' A' v x T → (T ++ G').Nodup → Q v H'
  | .exc e μ => ∀ c d H' Φ' A' G', Step [] G H Φ A [] G' H' Φ' A' → Stands K ⟨[], μ⟩ [] H' Φ' A' [] G' → RX K Φ' H' e c d → E c d H'
def spF (K : PySem.W.Frag) (n : Nat) (f : FnS) : Sp := fun vs H Q E => vs.length = n ∧ ∃ Φ A G μ as res, Stands K ⟨[], μ⟩ [] H Φ A [] G ∧ RSs K Φ H A vs as [] ∧ f as μ = some res ∧ PostF K H Φ A G Q E res

/-- an argument: frozen, or a cell -/
def R.arg (S : Sto) (r : R) : Option (SV × Sto) := match r.sv S with
  | some (.cell k) => some (.cell k, S)
  | _ => match r.esc S with
    | some (d, S1) => some (.dat d, S1)
    | none => none
def argsOf : List R → Sto → Option (List SV × Sto)
  | [], S => some ([], S)
  | r :: rs, S => match r.arg S with
    | some (x, S1) => match argsOf rs S1 with
      | some (xs, S2) => some (x :: xs, S2)
      | none => none
    | none => none
section
variable {K : PySem.W.Frag} {W : WX} {S S' : Sto} {σ : Sl} {H Φ : Hp} {A F G T : List Addr} {v : V} {r : R}
theorem arg_ok {x : SV} (st : Stands K S σ H Φ A F G) (h : RV K Φ H A S σ v r T) (nd : (T ++ (F ++ G)).Nodup) (e : r.arg S = some (x, S')) :
    ∃ Φ' F', Step (T ++ F) G H Φ A F' G H Φ' A ∧ Stands K S' σ H Φ' A F' G ∧ RS K Φ' H A v x [] ∧ Frz S S' := by
  have other : ∀ d S1, r.esc S = some (d, S1) → x = .dat d → S' = S1 → ∃ Φ' F', Step (T ++ F) G H Φ A F' G H Φ' A ∧ Stands K S' σ H Φ' A F' G ∧ RS K Φ' H A v x [] ∧ Frz S S' := fun d S1 e1 ex eS => by
    subst ex eS
    obtain ⟨Φ1, F1, sp1, st1, rp1, fz1⟩ := esc_ok st h nd e1
    exact ⟨Φ1, F1, sp1, st1, .dat rp1, fz1⟩
  have go : (match r.esc S with | some (d, S1) => some (SV.dat d, S1) | none => none) = some (x, S') → ∃ Φ' F', Step (T ++ F) G H Φ A F' G H Φ' A ∧ Stands K S' σ H Φ' A F' G ∧ RS K Φ' H A v x [] ∧ Frz S S' := fun e => by
    cases e1 : r.esc S with
    | none => rw [e1] at e; cases e
    | some dS => obtain ⟨d, S1⟩ := dS; rw [e1] at e; cases e; exact other _ _ e1 rfl rfl
  unfold R.arg at e
  cases ex : r.sv S with
  | none => rw [ex] at e; exact go e
  | some y =>
    rw [ex] at e
    cases y with
    | dat d => exact go e
    | node n xs => exact go e
    | cell k =>
      cases e
      obtain ⟨U, q, _⟩ := RV.rs st h ex
      cases q with
      | cell q => exact ⟨Φ, F, ⟨fun _ _ e _ => e, fun _ _ e => e, fun _ _ e => .inl e, fun b hb => .inl (List.mem_append_right _ hb), fun _ h => .inl h, fun _ h => h, Pfx.refl⟩, st, .cell q, .refl⟩
theorem args_ok : ∀ {vs : List V} {rs : List R} {T : List Addr} {S : Sto} {Φ : Hp} {F : List Addr} {xs : List SV}, Stands K S σ H Φ A F G → RVs K Φ H A S σ vs rs T → (T ++ (F ++ G)).Nodup → argsOf rs S = some (xs, S') →
    ∃ Φ' F', Step (T ++ F) G H Φ A F' G H Φ' A ∧ Stands K S' σ H Φ' A F' G ∧ RSs K Φ' H A vs xs [] ∧ Frz S S'
  | _, _, _, S, Φ, F, _, st, .nil, nd, e => by
    cases e
    exact ⟨Φ, F, by rw [List.nil_append]; exact .refl, st, .nil, .refl⟩
  | _, _, _, S, Φ, F, xs, st, .cons (r := r) (rs := rs) (T := T) (U := U) q qs, nd, e => by
    unfold argsOf at e
    cases e1 : r.arg S with
    | none => rw [e1] at e; cases e
    | some dS =>
      obtain ⟨x, S1⟩ := dS
      rw [e1] at e
      dsimp only at e
      cases e2 : argsOf rs S1 with
      | none => rw [e2] at e; cases e
      | some dS2 =>
        obtain ⟨xs2, S2⟩ := dS2
        rw [e2] at e; cases e
        obtain ⟨Φ1, F1, sp1, st1, rp1, fz1⟩ := arg_ok st q (nd_left nd) e1
        have nd' : (U ++ ((T ++ F) ++ G)).Nodup := by
          simp only [List.nodup_append, List.mem_append] at nd ⊢; grind
        have qs1 := RVs.step' st sp1 fz1 qs nd'
        have nd1 : (U ++ (F1 ++ G)).Nodup := sp1.apart (fun b hb => (qs.there b hb).1) nd' st1.nd
        obtain ⟨Φ2, F2, sp2, st2, rp2, fz2⟩ := args_ok st1 qs1 nd1 e2
        have s3 : Step ((T ++ U) ++ F) G H Φ A (U ++ F1) G H Φ1 A := ⟨fun _ _ e _ => e, sp1.le, fun b o e => by
            rcases sp1.grow b o e with h | h | h | h
            · exact .inl h
            · exact .inr (.inl (by simp only [List.mem_append] at h ⊢; grind))
            · exact .inr (.inr (.inl h))
            · exact .inr (.inr (.inr h)), fun b hb => by
            rcases List.mem_append.mp hb with h | h
            · exact .inl (by simp [h])
            · rcases sp1.ownF b h with h | h | h
              · exact .inl (by simp only [List.mem_append] at h ⊢; grind)
              · exact .inr (.inl h)
              · exact .inr (.inr h), fun _ h => .inl h, fun _ h => h, Pfx.refl⟩
        have r1 : RSs K Φ2 H A _ (x :: xs2) ([] ++ []) := .cons (rp1.frame sp2.le Pfx.refl (fun _ _ => rfl) (fun b hb => by simp at hb)) rp2
        exact ⟨Φ2, F2, s3.trans0 sp2, st2, r1, fz1.trans fz2⟩
theorem RSs.app {A : List Addr} : ∀ {vs ws : List V} {xs ys : List SV} {F1 F2 : List Addr}, RSs K Φ H A vs xs F1 → RSs K Φ H A ws ys F2 → RSs K Φ H A (vs ++ ws) (xs ++ ys) (F1 ++ F2)
  | _, _, _, _, _, _, .nil, s => s
  | _, _, _, _, _, _, .cons q r, s => by rw [List.append_assoc]; exact .cons q (RSs.app r s)
end
/-- the call of a def that does f, the defaults behind the arguments -/
def fGo (f : FnS) (dfl : List SV) (fa : FA) : FE := bindE fa fun rs S => match argsOf rs S with
  | some (as, S1) => match f (as ++ dfl) S1.μ with
    | some (.ok x μ) => some (.ok (.val x) { S1 with μ := μ })
    | some (.exc e μ) => some (.exc e { S1 with μ := μ })
    | none => none
  | none => none
/-- defaults: data wherever -/
def Dfl (K : PySem.W.Frag) (dvs : List V) (dfl : List SV) : Prop := ∀ Φ H A, RSs K Φ H A dvs dfl []
theorem dfl_nil {K : PySem.W.Frag} : Dfl K [] [] := fun _ _ _ => .nil
theorem dfl_cons {K : PySem.W.Frag} {v : V} {d : D} {vs : List V} {xs : List SV} (h : ∀ H, Rp K H v d) (t : Dfl K vs xs) : Dfl K (v :: vs) (.dat d :: xs) := fun Φ H A => .cons (F := []) (.dat (h _)) (t Φ H A)
theorem frz_mu {S : Sto} {μ : List SV} : Frz S { S with μ := μ } := Frz.of rfl
theorem ev_go {K : PySem.W.Frag} {W : WX} {f : FnS} {n : Nat} {dvs : List V} {dfl : List SV} {t : TA} {fa : FA} (hd : Dfl K dvs dfl) (hl : ∀ as μ res, f as μ = some res → as.length = n) (ha : EVA K W t fa) : EV K W (tGo W (spF K n f) dvs t) (fGo f dfl fa) := fun S σ H Φ A F G st out ho Q q => by
  refine runA (t := t) ha st ho q.x fun rs S1 vs H1 Φ1 A1 T F1 G1 sp st1 rv nd fz h1 => ?_
  cases e1 : argsOf rs S1 with
  | none => rw [e1] at h1; cases h1
  | some aS =>
    obtain ⟨as, S2⟩ := aS
    rw [e1] at h1
    dsimp only at h1
    obtain ⟨Φ2, F2, sp2, st2, r2, fz2⟩ := args_ok st1 rv nd e1
    have rall : RSs K Φ2 H1 A1 (vs ++ dvs) (as ++ dfl) [] := r2.app (hd Φ2 H1 A1)
    cases e2 : f (as ++ dfl) S2.μ with
    | none => rw [e2] at h1; cases h1
    | some res =>
      rw [e2] at h1
      have s02 : Step F G H Φ A F2 G1 H1 Φ2 A1 := sp.trans0 sp2
      have st0 : Stands K ⟨[], S2.μ⟩ [] H1 Φ2 A1 [] G1 := ⟨st2.le, .nil, st2.rc, (List.nodup_append.mp st2.nd).2.1⟩
      refine ⟨by rw [rall.length]; exact hl _ _ _ e2, Φ2, A1, G1, S2.μ, as ++ dfl, res, st0, rall, e2, ?_⟩
      have both : ∀ {H' Φ' : Hp} {A' T' G' : List Addr} {μ' : List SV}, Step [] G1 H1 Φ2 A1 T' G' H' Φ' A' → Stands K ⟨[], μ'⟩ [] H' Φ' A' [] G' → (T' ++ G').Nodup →
          Step F2 G1 H1 Φ2 A1 (T' ++ F2) G' H' Φ' A' ∧ Stands K { S2 with μ := μ' } σ H' Φ' A' F2 G' ∧ (T' ++ (F2 ++ G')).Nodup := fun {H' Φ' A' T' G' μ'} sp3 st3 nd3 => by
        have nd0 : (F2 ++ ([] ++ G1)).Nodup := st2.nd
        obtain ⟨k1, k2⟩ := sp3.same (T := F2) (fun b hb => st2.ro.there b hb) nd0
        have tr : ∀ b ∈ F2, H1 b ≠ none := fun b hb => (st2.ro.there b hb).1
        have ng : ∀ b ∈ F2, b ∉ G1 := fun b hb hg => (List.nodup_append.mp st2.nd).2.2 b hb b hg rfl
        have ap := sp3.apart (T := F2) tr nd0 nd3
        refine ⟨⟨sp3.keep, sp3.le, fun b o e => (sp3.grow b o e).imp_right fun h => h.elim (fun z => by simp at z) .inr, fun b hb => ?_, sp3.ownG, sp3.live, sp3.cells⟩,
          ⟨st3.le, st2.ro.frame sp3.le sp3.cells k1 k2, st3.rc, ?_⟩, ?_⟩
        · rcases List.mem_append.mp hb with h | h
          · exact (sp3.ownF b h).imp_left fun z => by simp at z
          · exact .inl h
        · exact (ap.sublist ((List.Sublist.refl F2).append (List.sublist_append_right T' G')))
        · simp only [List.nodup_append, List.mem_append] at ap ⊢; grind
      cases res with
      | ok x μ' =>
        cases h1
        intro v H' Φ' A' T' G' sp3 st3 r3 nd3
        obtain ⟨b1, b2, b3⟩ := both sp3 st3 nd3
        exact q v H' Φ' A' T' F2 G' (s02.trans0 b1) b2 r3 b3 ((fz.trans fz2).trans frz_mu)
      | exc ex μ' =>
        cases h1
        intro c d H' Φ' A' G' sp3 st3 rx
        obtain ⟨b1, b2, b3⟩ := both (T' := []) sp3 st3 (List.nodup_append.mp st3.nd).2.1
        exact q c d H' Φ' A' F2 G' (s02.trans0 b1) b2 rx ((fz.trans fz2).trans frz_mu)
section
variable {X : Cx} {k : Nat} {f : Addr} {fd : FuncData} {ps : List Str} {W : WX} {x : Str} {p pos : Pos} {e : Expr} {es : List Expr} {t : TA} {fa : FA} {ds : List Value} {dvs : List V} {n : Nat} {g : FnS} {dfl : List SV}
theorem de_go (h : FG X.prog X.w X.K X.mg X.base k f fd ps (spF X.K n g)) (hl : ∀ as μ res, g as μ = some res → as.length = n) (room : Room k X.A) (gd : X.A.guards = some []) (hm : X.mg x = some (.ref f)) (hk : PySem.W.keepIn X.K (.ref f) = true) (bd : Binds X.K fd ps ds) (dd : Vals dvs ds) (hd : Dfl X.K dvs dfl) (tk : Takes X W)
    (ha : DA X W (e :: es) t fa) (hg : Gl X x := by rfl) (hdb : (x == ("__debug__" : Str)) = false := by decide) (he : starEach (e :: es) X.env = (false, eval e X.env) :: starEach es X.env := by rfl) (hpl : (backTo pos (starEach es X.env)).any (·.1) = false := by rfl) : DE X W (.Call (.Name x p) (e :: es) [] pos) (tGo W (spF X.K n g) dvs t) (fGo g dfl fa) :=
  ⟨pe_go h room gd hg hm hk bd dd tk ha.pe hdb he hpl, ev_go hd hl ha.ev⟩
end

/-! ### argument lists, displays -/
section
variable {X : Cx} {W : WX} {e : Expr} {es : List Expr} {pos : Pos} {te : TE} {t : TA} {fe : FE} {fs : FA}
def fNil : FA := fun S => some (.ok [] S)
def fCons (fe : FE) (fs : FA) : FA := bindE fe fun r => bindE fs fun rs => retE (r :: rs)
theorem ev_nil {K : PySem.W.Frag} : EVA K W tNil fNil := fun S σ H Φ A F G st out ho Q q => by
  cases ho
  exact q [] H Φ A [] F G .refl st .nil (by simpa using st.nd) .refl
theorem ev_cons {K : PySem.W.Frag} (ha : EV K W te fe) (hb : EVA K W t fs) : EVA K W (tCons te t) (fCons fe fs) := fun S σ H Φ A F G st out ho Q q => by
  refine run1 (t := te) ha st ho q.x fun r S1 v H1 Φ1 A1 T F1 G1 sp st1 rv nd fz h1 => ?_
  refine runA (t := t) hb st1 h1 (fun e S' eo => (q.x e S' eo).at sp fz) fun rs S2 vs H2 Φ2 A2 U F2 G2 sp2 st2 rvs nd2 fz2 h2 => ?_
  cases h2
  have rv' := RV.step st1 rv nd sp2.drop fz2
  have nd' : ((T ++ U) ++ (F2 ++ G2)).Nodup := by
    have := sp2.apart (fun b hb => (rv.there b hb).1) nd (by rw [List.append_assoc]; exact nd2)
    simpa [List.append_assoc] using this
  exact q (v :: vs) H2 Φ2 A2 (T ++ U) F2 G2 (by rw [List.append_assoc]; exact sp.trans sp2) st2 (.cons rv' rvs) nd' (fz.trans fz2)
theorem da_nil : DA X W [] tNil fNil := ⟨pa_nil, ev_nil⟩
theorem da_cons (ha : DE X W e te fe) (hb : DA X W es t fs) (hs : starEach (e :: es) X.env = (false, eval e X.env) :: starEach es X.env := by rfl) : DA X W (e :: es) (tCons te t) (fCons fe fs) := ⟨pa_cons ha.pe hb.pe hs, ev_cons ha.ev hb.ev⟩
theorem k1000 {n : Nat} (h : n ≤ 1000) : n ≤ sizeLine := Nat.le_trans h (by rw [sizeLine_eq]; decide)
/-- (a, b, ..): its items frozen -/
def fTup (fs : FA) : FE := bindE fs fun rs S => if rs.length ≤ 1000 then (escs rs S).map fun z => .ok (.d (.tup z.1)) z.2 else none
theorem ev_tup {K : PySem.W.Frag} (h : EVA K W t fs) : EV K W (tTup t) (fTup fs) := fun S σ H Φ A F G st out ho Q q => by
  refine runA (t := t) h st ho q.x fun rs S1 vs H1 Φ1 A1 T F1 G1 sp st1 rv nd fz h1 => ?_
  by_cases hl : rs.length ≤ 1000
  · rw [if_pos hl] at h1
    cases e1 : escs rs S1 with
    | none => rw [e1] at h1; cases h1
    | some z =>
      obtain ⟨ds, S2⟩ := z
      rw [e1] at h1; cases h1
      obtain ⟨Φ2, F2, sp2, st2, rp, fz2⟩ := escs_ok st1 rv nd e1
      refine ⟨by rw [rv.length]; exact k1000 hl, fun p hp => ?_⟩
      obtain ⟨n1, n2, n3⟩ := new_frz (o := .tup vs) st2 hp
      refine q (.ref p) _ _ _ [] F2 G1 ((sp.trans0 sp2).trans0 n1) n2 (RS.dat (.tup (SqT.of upd_same) (rp.mono n3))) (by simpa using n2.nd) (fz.trans fz2)
  · rw [if_neg hl] at h1; cases h1
theorem de_tup {x1} (h : DA X W es t fs) : DE X W (.Tuple es x1 pos) (tTup t) (fTup fs) := ⟨pe_tup h.pe, ev_tup h.ev⟩
/-- [a, b, ..]: a new list of its own -/
def fLst (fs : FA) : FE := bindE fs fun rs S => if rs.length ≤ 1000 then (kids rs S).map fun z => .ok (.val (.own z.1)) z.2 else none
theorem ev_lst {K : PySem.W.Frag} (h : EVA K W t fs) : EV K W (tLst t) (fLst fs) := fun S σ H Φ A F G st out ho Q q => by
  refine runA (t := t) h st ho q.x fun rs S1 vs H1 Φ1 A1 T F1 G1 sp st1 rv nd fz h1 => ?_
  by_cases hl : rs.length ≤ 1000
  · rw [if_pos hl] at h1
    cases e1 : kids rs S1 with
    | none => rw [e1] at h1; cases h1
    | some z =>
      obtain ⟨xs, S2⟩ := z
      rw [e1] at h1; cases h1
      obtain ⟨Φ2, F2, sp2, st2, rq, fz2⟩ := kids_ok st1 rv nd e1
      have nd2 : (T ++ (F2 ++ G1)).Nodup := sp2.apart (fun b hb => (rv.there b hb).1) nd st2.nd
      refine ⟨by rw [rv.length]; exact k1000 hl, fun p hp => ?_⟩
      obtain ⟨n1, n2, n3, n4⟩ := new_list st2 rq nd2 hp
      have s2 : Step F G H Φ A (T ++ F2) G1 H1 Φ2 A1 := Step.trans (T1 := []) sp sp2
      exact q (.ref p) _ _ _ (p :: T) F2 G1 (s2.trans0 n1) n2 n3 n4 (fz.trans fz2)
  · rw [if_neg hl] at h1; cases h1
theorem de_lst (h : DA X W es t fs) : DE X W (.List es pos) (tLst t) (fLst fs) := ⟨pe_lst h.pe, ev_lst h.ev⟩
end
end L3

namespace L3
open PySem PySem.Spec PyProof.Rows L2

/-! ### statements -/
inductive SO where
  | nx (S : Sto) | rt (x : SV) (μ : List SV) | bk (S : Sto) | ct (S : Sto) | exc (e : Ex) (S : Sto)
abbrev FS := Sto → Option SO
section
variable (K : PySem.W.Frag) (W : WX)
def XS (F G : List Addr) (H Φ : Hp) (A : List Addr) (e : Ex) (S' : Sto) : Prop := ∀ c d σ' H' Φ' A' F' G', Run F G H Φ A F' G' H' Φ' A' → Stands K S' σ' H' Φ' A' F' G' → RX K Φ' H' e c d → W c d σ' H'
def NxS (F G : List Addr) (H Φ : Hp) (A : List Addr) (S' : Sto) (P : Sl → Hp → Prop) : Prop := ∀ σ' H' Φ' A' F' G', Run F G H Φ A F' G' H' Φ' A' → Stands K S' σ' H' Φ' A' F' G' → P σ' H'
def RtS (F G : List Addr) (H Φ : Hp) (A : List Addr) (x : SV) (μ : List SV) (Q : VK) : Prop := ∀ v H' Φ' A' T G', Run F G H Φ A T G' H' Φ' A' → Stands K ⟨[], μ⟩ [] H' Φ' A' [] G' → RS K Φ' H' A' v x T → (T ++ G').Nodup → Q v H'
def PostS (F G : List Addr) (H Φ : Hp) (A : List Addr) (D : Ends) : SO → Prop
  | .nx S' => NxS K F G H Φ A S' D.nx
  | .bk S' => NxS K F G H Φ A S' D.bk
  | .ct S' => NxS K F G H Φ A S' D.ct
  | .rt x μ => RtS K F G H Φ A x μ D.rt
  | .exc e S' => XS K W F G H Φ A e S'
def SEV (t : TS) (f : FS) : Prop := ∀ S σ H Φ A F G, Stands K S σ H Φ A F G → ∀ out, f S = some out → ∀ D, PostS K W F G H Φ A D out → t D σ H
end
structure DS (X : Cx) (W : WX) (s : Stmt) (t : TS) (f : FS) : Prop where
  ps : PS X s t
  ev : SEV X.K W t f
structure DB (X : Cx) (W : WX) (s : List Stmt) (t : TS) (f : FS) : Prop where
  ps : PSs X s t
  ev : SEV X.K W t f

section
variable {K : PySem.W.Frag} {W : WX} {S S' S1 : Sto} {σ : Sl} {H Φ H1 Φ1 : Hp} {A A1 F G F1 G1 T : List Addr} {v : V} {r : R}
theorem NxS.at {P : Sl → Hp → Prop} (q : NxS K F G H Φ A S' P) (rn : Run F G H Φ A F1 G1 H1 Φ1 A1) : NxS K F1 G1 H1 Φ1 A1 S' P := fun σ' H' Φ' A' F' G' r2 st => q σ' H' Φ' A' F' G' (rn.trans r2) st
theorem PostS.at {D : Ends} {out : SO} (q : PostS K W F G H Φ A D out) (rn : Run F G H Φ A F1 G1 H1 Φ1 A1) : PostS K W F1 G1 H1 Φ1 A1 D out := by
  cases out with
  | nx S' => exact NxS.at q rn
  | bk S' => exact NxS.at q rn
  | ct S' => exact NxS.at q rn
  | rt x μ => exact fun v H' Φ' A' T G' r2 st rs nd => q v H' Φ' A' T G' (rn.trans r2) st rs nd
  | exc e S' => exact fun c d σ' H' Φ' A' F' G' r2 st rx => q c d σ' H' Φ' A' F' G' (rn.trans r2) st rx
theorem XS.xp {e : Ex} (q : XS K W F G H Φ A e S') : XP K W S σ H Φ A F G e S' := fun c d H' Φ' A' F' G' sp st rx _ => q c d σ H' Φ' A' F' G' sp.run st rx
/-- from an expression to the statement's end -/
def bindS {α : Type} (f : Sto → Option (Out α)) (g : α → FS) : FS := fun S => match f S with
  | some (.ok a S1) => g a S1
  | some (.exc e S1) => some (.exc e S1)
  | none => none
theorem runS {t : TE} {f : FE} {k : R → FS} {out : SO} {D : Ends} {P : VK} (hf : EV K W t f) (st : Stands K S σ H Φ A F G) (h : bindS f k S = some out) (q : PostS K W F G H Φ A D out)
    (hk : ∀ r S1 v H1 Φ1 A1 T F1 G1, Step F G H Φ A (T ++ F1) G1 H1 Φ1 A1 → Stands K S1 σ H1 Φ1 A1 F1 G1 → RV K Φ1 H1 A1 S1 σ v r T → (T ++ (F1 ++ G1)).Nodup → k r S1 = some out → P v H1) : t σ H P := by
  unfold bindS at h
  cases e : f S with
  | none => rw [e] at h; cases h
  | some o =>
    rw [e] at h
    cases o with
    | ok r S1 => exact hf S σ H Φ A F G st _ e P fun v H' Φ' A' T F' G' sp st' rv nd fz => hk r S1 v H' Φ' A' T F' G' sp st' rv nd h
    | exc x S1 => cases h; exact hf S σ H Φ A F G st _ e P (XS.xp q)
theorem runST {t : TT} {f : FT} {k : Bool → FS} {out : SO} {D : Ends} {P : Bool → Hp → Prop} (hf : EVT K W t f) (st : Stands K S σ H Φ A F G) (h : bindS f k S = some out) (q : PostS K W F G H Φ A D out)
    (hk : ∀ b S1 H1 Φ1 A1 F1 G1, Step F G H Φ A F1 G1 H1 Φ1 A1 → Stands K S1 σ H1 Φ1 A1 F1 G1 → k b S1 = some out → P b H1) : t σ H P := by
  unfold bindS at h
  cases e : f S with
  | none => rw [e] at h; cases h
  | some o =>
    rw [e] at h
    cases o with
    | ok b S1 => exact hf S σ H Φ A F G st _ e P fun H' Φ' A' F' G' sp st' fz => hk b S1 H' Φ' A' F' G' sp st' h
    | exc x S1 => cases h; exact hf S σ H Φ A F G st _ e P (XS.xp (σ := σ) q)
theorem runSA {t : TA} {f : FA} {k : List R → FS} {out : SO} {D : Ends} {P : List V → Hp → Prop} (hf : EVA K W t f) (st : Stands K S σ H Φ A F G) (h : bindS f k S = some out) (q : PostS K W F G H Φ A D out)
    (hk : ∀ rs S1 vs H1 Φ1 A1 T F1 G1, Step F G H Φ A (T ++ F1) G1 H1 Φ1 A1 → Stands K S1 σ H1 Φ1 A1 F1 G1 → RVs K Φ1 H1 A1 S1 σ vs rs T → (T ++ (F1 ++ G1)).Nodup → k rs S1 = some out → P vs H1) : t σ H P := by
  unfold bindS at h
  cases e : f S with
  | none => rw [e] at h; cases h
  | some o =>
    rw [e] at h
    cases o with
    | ok r S1 => exact hf S σ H Φ A F G st _ e P fun v H' Φ' A' T F' G' sp st' rv nd fz => hk r S1 v H' Φ' A' T F' G' sp st' rv nd h
    | exc x S1 => cases h; exact hf S σ H Φ A F G st _ e P (XS.xp q)

/-- a slot filled -/
theorem Stands.set {i : Nat} {x : SV} (st : Stands K S σ H Φ A F G) (h : RS K Φ H A v x T) (nd : (T ++ (F ++ G)).Nodup) (hi : i < S.ρ.length) :
    ∃ F', Stands K { S with ρ := S.ρ.set i (some x) } (σ.set i (some v)) H Φ A F' G ∧ ∀ b ∈ F', b ∈ T ∨ b ∈ F := by
  obtain ⟨F1, F2, ⟨Fi, e1⟩, ro⟩ := st.ro.put hi h
  refine ⟨F1 ++ (T ++ F2), ⟨st.le, ro, st.rc, ?_⟩, fun b hb => ?_⟩
  · subst e1
    simp only [List.nodup_append, List.mem_append] at nd ⊢; grind
  · subst e1
    simp only [List.mem_append] at hb ⊢; grind
theorem Run.of_sub {F' : List Addr} (h : ∀ b ∈ F', b ∈ F) : Run F G H Φ A F' G H Φ A := Run.sub .refl fun b hb => hb.imp_left (h b)

/-- what a return hands back: whatever it is, out of its slot -/
theorem ret_ok {x : SV} (st : Stands K S σ H Φ A F G) (h : RV K Φ H A S σ v r T) (nd : (T ++ (F ++ G)).Nodup) (e : r.sv S = some x) :
    ∃ U, RS K Φ H A v x U ∧ (U ++ G).Nodup ∧ ∀ b ∈ U, b ∈ T ∨ b ∈ F := by
  cases r with
  | val y =>
    cases e
    exact ⟨T, h, nd.sublist ((List.Sublist.refl T).append (List.sublist_append_right F G)), fun b hb => .inl hb⟩
  | bor i p =>
    obtain ⟨rfl, v0, e0, hp, hat⟩ := h
    have e : S.sub i p = some x := e
    obtain ⟨x0, e1, e2⟩ := sub_some e
    obtain ⟨v', F1, Fi, F2, e3, e4, q, _⟩ := st.ro.at e1
    rw [e0] at e3; cases e3
    obtain ⟨u, E1, Ex, E2, a1, a2, a3, _⟩ := RS.sub q e2
    have : u = v := a1.inj (hat x e)
    subst this
    subst e4 a2
    refine ⟨Ex, a3, ?_, fun b hb => .inr (by simp only [List.mem_append]; grind)⟩
    have := st.nd
    simp only [List.nodup_append, List.mem_append] at this ⊢; grind
end

section
variable {X : Cx} {W : WX} {e tg : Expr} {s : Stmt} {ss : List Stmt} {pos : Pos} {te : TE} {t u : TS} {ta : TA} {fe : FE} {f g : FS} {fa : FA}
/-! ### blocks -/
def fNext : FS := fun S => some (.nx S)
def fSeq (f g : FS) : FS := fun S => match f S with
  | some (.nx S1) => g S1
  | o => o
theorem db_nil : DB X W [] tNext fNext := ⟨pss_nil, fun S σ H Φ A F G st out ho D q => by cases ho; exact q σ H Φ A F G .refl st⟩
theorem ev_seq {K : PySem.W.Frag} (hf : SEV K W t f) (hg : SEV K W u g) : SEV K W (tSeq t u) (fSeq f g) := fun S σ H Φ A F G st out ho D q => by
  unfold fSeq at ho
  cases e : f S with
  | none => rw [e] at ho; cases ho
  | some o =>
    rw [e] at ho
    refine hf S σ H Φ A F G st o e { D with nx := u D } ?_
    cases o with
    | nx S1 => exact fun σ' H' Φ' A' F' G' rn st' => hg S1 σ' H' Φ' A' F' G' st' out ho D (q.at rn)
    | bk S1 => cases ho; exact q
    | ct S1 => cases ho; exact q
    | rt x μ => cases ho; exact q
    | exc x S1 => cases ho; exact q
theorem db_cons (hf : DS X W s t f) (hg : DB X W ss u g) : DB X W (s :: ss) (tSeq t u) (fSeq f g) := ⟨pss_cons hf.ps hg.ps, ev_seq hf.ev hg.ev⟩
theorem db_one (hf : DS X W s t f) : DB X W [s] t f := ⟨pss_one hf.ps, hf.ev⟩
theorem ds_pass : DS X W (.Pass pos) tNext fNext := ⟨ps_pass, db_nil.ev⟩
def fBrk : FS := fun S => some (.bk S)
def fCont : FS := fun S => some (.ct S)
theorem ds_break : DS X W (.Break pos) tBreak fBrk := ⟨ps_break, fun S σ H Φ A F G st out ho D q => by cases ho; exact q σ H Φ A F G .refl st⟩
theorem ds_continue : DS X W (.Continue pos) tCont fCont := ⟨ps_continue, fun S σ H Φ A F G st out ho D q => by cases ho; exact q σ H Φ A F G .refl st⟩
/-! ### expressions, returns -/
def fExpr (fe : FE) : FS := bindS fe fun _ S => some (.nx S)
theorem ev_expr {K : PySem.W.Frag} (h : EV K W te fe) : SEV K W (tDrop te) (fExpr fe) := fun S σ H Φ A F G st out ho D q => by
  refine runS (t := te) h st ho q fun r S1 v H1 Φ1 A1 T F1 G1 sp st1 rv nd h1 => ?_
  cases h1
  exact q σ H1 Φ1 A1 F1 G1 sp.drop.run st1
theorem ds_expr (h : DE X W e te fe) (hs : swapsWith e none pos.line X.env = pure false := by rfl) : DS X W (.Expr e pos) (tDrop te) (fExpr fe) := ⟨ps_expr h.pe hs, ev_expr h.ev⟩
def fRet (fe : FE) : FS := bindS fe fun r S => (r.sv S).map fun x => .rt x S.μ
theorem ds_ret (h : DE X W e te fe) : DS X W (.Return (some e) pos) (tRet te) (fRet fe) := ⟨ps_ret h.pe, fun S σ H Φ A F G st out ho D q => by
  refine runS (t := te) h.ev st ho q fun r S1 v H1 Φ1 A1 T F1 G1 sp st1 rv nd h1 => ?_
  cases e1 : r.sv S1 with
  | none => rw [e1] at h1; cases h1
  | some x =>
    rw [e1] at h1; cases h1
    obtain ⟨U, rs, nd2, hU⟩ := ret_ok st1 rv nd e1
    exact q v H1 Φ1 A1 U G1 (sp.run.sub fun b hb => hb.imp_left fun h => by simpa using hU b h) ⟨st1.le, .nil, st1.rc, (List.nodup_append.mp st1.nd).2.1⟩ rs nd2⟩
def fRetN : FS := fun S => some (.rt (.dat .non) S.μ)
theorem ds_retN : DS X W (.Return none pos) tRetN fRetN := ⟨ps_retN, fun S σ H Φ A F G st out ho D q => by
  cases ho
  exact q .non H Φ A [] G (Run.sub .refl fun b hb => hb.elim (fun h => by simp at h) .inr) ⟨st.le, .nil, st.rc, (List.nodup_append.mp st.nd).2.1⟩ (.dat .non) (by simpa using (List.nodup_append.mp st.nd).2.1)⟩
/-! ### if -/
def fIf (c : FT) (f g : FS) : FS := bindS c fun b => if b = true then f else g
theorem ds_if {c : Expr} {a b : List Stmt} {tc : TT} {fc : FT} (hc : DT X W c tc fc) (ha : DB X W a t f) (hb : DB X W b u g) : DS X W (.If c a b pos) (tIfS tc t u) (fIf fc f g) := ⟨ps_if hc.pe ha.ps hb.ps, fun S σ H Φ A F G st out ho D q => by
  refine runST (t := tc) hc.ev st ho q fun b S1 H1 Φ1 A1 F1 G1 sp st1 h1 => ?_
  cases b with
  | true => rw [if_pos rfl] at h1 ⊢; exact ha.ev S1 σ H1 Φ1 A1 F1 G1 st1 out h1 D (q.at sp.run)
  | false => rw [if_neg (by decide)] at h1 ⊢; exact hb.ev S1 σ H1 Φ1 A1 F1 G1 st1 out h1 D (q.at sp.run)⟩
/-! ### name = value -/
/-- slot i filled, where there is one -/
def Sto.put (S : Sto) (i : Nat) (x : SV) : Option Sto := if i < S.ρ.length then some { S with ρ := S.ρ.set i (some x) } else none
def fSet (i : Nat) (fe : FE) : FS := bindS fe fun r S => match r.kid S with
  | some (x, S1) => (S1.put i x).map SO.nx
  | none => none
theorem ev_set {K : PySem.W.Frag} {i : Nat} (h : EV K W te fe) : SEV K W (tAsg te (gName i)) (fSet i fe) := fun S σ H Φ A F G st out ho D q => by
  refine runS (t := te) h st ho q fun r S1 v H1 Φ1 A1 T F1 G1 sp st1 rv nd h1 => ?_
  cases e1 : r.kid S1 with
  | none => rw [e1] at h1; cases h1
  | some z =>
    obtain ⟨x, S2⟩ := z
    rw [e1] at h1
    obtain ⟨Φ2, F2, sp2, st2, rs2, fz2⟩ := kid_ok st1 rv nd e1
    have nd2 : (T ++ (F2 ++ G1)).Nodup := sp2.apart (fun b hb => (rv.there b hb).1) nd st2.nd
    have h1 : (S2.put i x).map SO.nx = some out := h1
    unfold Sto.put at h1
    by_cases hi : i < S2.ρ.length
    · rw [if_pos hi] at h1; cases h1
      obtain ⟨F3, st3, hF⟩ := st2.set rs2 nd2 hi
      have s12 : Step F G H Φ A (T ++ F2) G1 H1 Φ2 A1 := Step.trans (T1 := []) sp sp2
      exact q (σ.set i (some v)) H1 Φ2 A1 F3 G1 (s12.run.sub fun b hb => hb.imp_left fun h => by simpa using hF b h) st3
    · rw [if_neg hi] at h1; cases h1
theorem ds_set {x : Str} {pos' : Pos} {i : Nat} (hN : X.N.Nodup) (h : DE X W e te fe) (hi : X.N[i]? = some x := by rfl) (hx : Loc X.env.scope x := by first | exact Or.inl rfl | exact Or.inr rfl) (hs : swapsWith e (some (.Name x pos')) pos.line X.env = pure false := by rfl)
    (hf : X.fn x = true ∨ X.env.scope.names.lookup x = some .local := by first | exact .inl rfl | exact .inr rfl) : DS X W (.Assign [.Name x pos'] e pos) (tAsg te (gName i)) (fSet i fe) := ⟨ps_set hN hi hx h.pe hs hf, ev_set h.ev⟩
/-! ### targets -/
inductive Tg where
  | nm (i : Nat) | tp (ts : List Tg)
mutual
/-- a datum stored into a target: the slots then -/
def tgS : Tg → D → List (Option SV) → Option (List (Option SV))
  | .nm i, d, ρ => if i < ρ.length then some (ρ.set i (some (.dat d))) else none
  | .tp ts, .tup ds, ρ => tgsS ts ds ρ
  | .tp _, _, _ => none
def tgsS : List Tg → List D → List (Option SV) → Option (List (Option SV))
  | [], [], ρ => some ρ
  | t :: ts, d :: ds, ρ => match tgS t d ρ with
    | some ρ1 => tgsS ts ds ρ1
    | none => none
  | _, _, _ => none
end
mutual
def Tg.sl : Tg → List Nat
  | .nm i => [i]
  | .tp ts => Tg.sls ts
def Tg.sls : List Tg → List Nat
  | [] => []
  | t :: ts => t.sl ++ Tg.sls ts
end
/-- but for some slots all is as it was -/
def But (is : List Nat) (σ σ' : Sl) : Prop := σ'.length = σ.length ∧ ∀ j : Nat, j ∉ is → σ'[j]? = σ[j]?
def GEV (K : PySem.W.Frag) (g : TG) (t : Tg) : Prop := ∀ S σ H Φ A F G v d ρ', Stands K S σ H Φ A F G → Rp K Φ v d → tgS t d S.ρ = some ρ' → ∀ Q : Sl → Hp → Prop,
  (∀ σ' F', Stands K { S with ρ := ρ' } σ' H Φ A F' G → (∀ b ∈ F', b ∈ F) → But t.sl σ σ' → Q σ' H) → g v σ H Q
def GEVs (K : PySem.W.Frag) (g : TGs) (ts : List Tg) : Prop := ∀ S σ H Φ A F G vs ds ρ', Stands K S σ H Φ A F G → Rps K Φ vs ds → tgsS ts ds S.ρ = some ρ' → ∀ Q : Sl → Hp → Prop,
  (∀ σ' F', Stands K { S with ρ := ρ' } σ' H Φ A F' G → (∀ b ∈ F', b ∈ F) → But (Tg.sls ts) σ σ' → Q σ' H) → g vs σ H Q
structure DG (X : Cx) (e : Expr) (g : TG) (t : Tg) : Prop where
  pg : PG X e g
  ev : GEV X.K g t
structure DGs (X : Cx) (es : List Expr) (g : TGs) (ts : List Tg) : Prop where
  pg : PGs X es g
  ev : GEVs X.K g ts
theorem dg_name {x : Str} {i : Nat} (hN : X.N.Nodup) (hi : X.N[i]? = some x := by rfl) (hx : Loc X.env.scope x := by first | exact Or.inl rfl | exact Or.inr rfl) (hf : X.fn x = true ∨ X.env.scope.names.lookup x = some .local := by first | exact .inl rfl | exact .inr rfl) : DG X (.Name x pos) (gName i) (.nm i) :=
  ⟨pg_name hN hi hx hf, fun S σ H Φ A F G v d ρ' st rp e Q q => by
    have e : (if i < S.ρ.length then some (S.ρ.set i (some (.dat d))) else none) = some ρ' := by rw [← e]; rfl
    by_cases hl : i < S.ρ.length
    · rw [if_pos hl] at e; cases e
      obtain ⟨F', st', hF⟩ := st.set (T := []) (.dat rp) (by simpa using st.nd) hl
      exact q _ F' st' (fun b hb => by simpa using hF b hb) ⟨List.length_set, fun j hj => List.getElem?_set_ne (fun e => hj (by rw [Tg.sl, e]; simp))⟩
    · rw [if_neg hl] at e; cases e⟩
theorem dgs_nil : DGs X [] gNil [] := ⟨pgs_nil, fun S σ H Φ A F G vs ds ρ' st rp e Q q => by
  cases rp with
  | nil =>
    have e : some S.ρ = some ρ' := by rw [← e]; rfl
    cases e
    exact ⟨rfl, q σ F st (fun _ h => h) ⟨rfl, fun _ _ => rfl⟩⟩
  | cons => exact absurd e (by unfold tgsS; simp)⟩
theorem dgs_cons {es : List Expr} {g : TG} {gs : TGs} {t : Tg} {ts : List Tg} (h : DG X e g t) (h2 : DGs X es gs ts) (hs : (assignEach (e :: es) X.env).map (·.2) = assign e X.env :: (assignEach es X.env).map (·.2) := by rfl) : DGs X (e :: es) (gCons g gs) (t :: ts) := ⟨pgs_cons h.pg h2.pg hs, fun S σ H Φ A F G vs ds ρ' st rp e Q q => by
  cases rp with
  | nil => exact absurd e (by unfold tgsS; simp)
  | cons r1 rr =>
    rename_i v vs d ds
    have e : (match tgS t d S.ρ with | some ρ1 => tgsS ts ds ρ1 | none => none) = some ρ' := by rw [← e]; rfl
    cases e1 : tgS t d S.ρ with
    | none => rw [e1] at e; cases e
    | some ρ1 =>
      rw [e1] at e
      exact ⟨v, vs, rfl, h.ev S σ H Φ A F G v d ρ1 st r1 e1 _ fun σ1 F1 st1 h1 b1 => h2.ev { S with ρ := ρ1 } σ1 H Φ A F1 G vs ds ρ' st1 rr e Q fun σ2 F2 st2 h3 b2 => q σ2 F2 st2 (fun b hb => h1 b (h3 b hb)) ⟨b2.1.trans b1.1, fun j hj => by
        rw [Tg.sls, List.mem_append, not_or] at hj
        rw [b2.2 j hj.2, b1.2 j hj.1]⟩⟩⟩
theorem dg_tup {es : List Expr} {k : Nat} {gs : TGs} {ts : List Tg} (hc : X.calm = true) (h : DGs X es gs ts) (hn : (assignEach es X.env).length = ts.length := by rfl) (hst : (assignEach es X.env).findIdx? (·.1) = none := by rfl) : DG X (.Tuple es k pos) (gTup X.K ts.length gs) (.tp ts) :=
  ⟨pg_tup hc h.pg hn hst, fun S σ H Φ A F G v d ρ' st rp e Q q => by
    cases rp with
    | tup sq rr =>
      rename_i a vs ds
      have e : tgsS ts ds S.ρ = some ρ' := by rw [← e]; rfl
      have hl : ∀ {ts : List Tg} {ds : List D} {ρ ρ' : List (Option SV)}, tgsS ts ds ρ = some ρ' → ds.length = ts.length := by
        intro ts
        induction ts with
        | nil => intro ds ρ ρ' e; cases ds with
          | nil => rfl
          | cons => exact absurd e (by unfold tgsS; simp)
        | cons t ts ih =>
          intro ds ρ ρ' e
          cases ds with
          | nil => exact absurd e (by unfold tgsS; simp)
          | cons d ds =>
            have e : (match tgS t d ρ with | some ρ1 => tgsS ts ds ρ1 | none => none) = some ρ' := by rw [← e]; rfl
            cases e1 : tgS t d ρ with
            | none => rw [e1] at e; cases e
            | some ρ1 => rw [e1] at e; exact congrArg (· + 1) (ih e)
      exact ⟨a, vs, rfl, sqT_mono st.le sq, by rw [rr.length]; exact hl e, h.ev S σ H Φ A F G vs ds ρ' st rr e Q (fun σ' F' a b c => q σ' F' a b (by rw [Tg.sl]; exact c))⟩
    | _ => exact absurd e (by unfold tgS; simp)⟩
/-- target = value, a datum -/
def fAsg (tg : Tg) (fe : FE) : FS := bindS fe fun r S => match r.esc S with
  | some (d, S1) => (tgS tg d S1.ρ).map fun ρ => .nx { S1 with ρ := ρ }
  | none => none
theorem ds_asg {g : TG} {tt : Tg} (h : DE X W e te fe) (hg : DG X tg g tt) (hs : swapsWithSole [tg] e pos.line X.env = pure false := by rfl) (hw : swappedStores [tg] e X.env = pure none := by rfl)
    (h1 : (assignEach [tg] X.env).map (·.2) = [assign tg X.env] := by rfl) : DS X W (.Assign [tg] e pos) (tAsg te g) (fAsg tt fe) := ⟨ps_asg h.pe hg.pg hs hw h1, fun S σ H Φ A F G st out ho D q => by
  refine runS (t := te) h.ev st ho q fun r S1 v H1 Φ1 A1 T F1 G1 sp st1 rv nd h1 => ?_
  cases e1 : r.esc S1 with
  | none => rw [e1] at h1; cases h1
  | some z =>
    obtain ⟨d, S2⟩ := z
    rw [e1] at h1
    obtain ⟨Φ2, F2, sp2, st2, rp2, fz2⟩ := esc_ok st1 rv nd e1
    have h1 : (tgS tt d S2.ρ).map (fun ρ => SO.nx { S2 with ρ := ρ }) = some out := h1
    cases e2 : tgS tt d S2.ρ with
    | none => rw [e2] at h1; cases h1
    | some ρ' =>
      rw [e2] at h1; cases h1
      refine hg.ev S2 σ H1 Φ2 A1 F2 G1 v d ρ' st2 rp2 e2 _ fun σ' F' st' hF _ => ?_
      exact q σ' H1 Φ2 A1 F' G1 ((sp.trans0 sp2).run.sub fun b hb => hb.imp_left (hF b)) st'⟩
/-! ### a, b = x, y (plain local names), each as it is -/
def putAll : List Nat → List SV → Sto → Option Sto
  | [], [], S => some S
  | i :: is, x :: xs, S => match S.put i x with
    | some S1 => putAll is xs S1
    | none => none
  | _, _, _ => none
def fPar (is : List Nat) (fa : FA) : FS := bindS fa fun rs S => match kids rs S with
  | some (xs, S1) => (putAll is xs S1).map SO.nx
  | none => none
def setAll : List Nat → List V → Sl → Sl
  | i :: is, v :: vs, σ => setAll is vs (σ.set i (some v))
  | _, _, σ => σ
theorem putAll_ok {K : PySem.W.Frag} {H Φ : Hp} {A G : List Addr} : ∀ {is : List Nat} {xs : List SV} {vs : List V} {S S' : Sto} {σ : Sl} {F T : List Addr}, Stands K S σ H Φ A F G → RSs K Φ H A vs xs T → (T ++ (F ++ G)).Nodup → putAll is xs S = some S' →
    ∃ F', Stands K S' (setAll is vs σ) H Φ A F' G ∧ ∀ b ∈ F', b ∈ T ∨ b ∈ F
  | [], _, _, S, S', σ, F, _, st, .nil, nd, e => by cases e; exact ⟨F, st, fun b hb => .inr hb⟩
  | i :: is, _, _, S, S', σ, F, _, st, .cons (v := v) (vs := vs) (x := x) (xs := xs) (F := F0) (G := G0) q r, nd, e => by
    have e : (match S.put i x with | some S1 => putAll is xs S1 | none => none) = some S' := by rw [← e]; rfl
    unfold Sto.put at e
    by_cases hi : i < S.ρ.length
    · rw [if_pos hi] at e
      obtain ⟨F1, st1, h1⟩ := st.set q (nd_left nd) hi
      have nd1 : (G0 ++ (F1 ++ G)).Nodup := by
        have n1 := st1.nd
        simp only [List.nodup_append, List.mem_append] at nd n1 ⊢; grind
      obtain ⟨F2, st2, h2⟩ := putAll_ok st1 r nd1 e
      refine ⟨F2, st2, fun b hb => ?_⟩
      rcases h2 b hb with h | h
      · exact .inl (List.mem_append_right _ h)
      · exact (h1 b h).imp_left (List.mem_append_left _)
    · rw [if_neg hi] at e; cases e
  | [], _, _, S, S', σ, F, _, st, .cons q r, nd, e => by cases e
  | i :: is, _, _, S, S', σ, F, _, st, .nil, nd, e => by cases e
theorem ev_par {K : PySem.W.Frag} {is : List Nat} {t : TS} (h : EVA K W ta fa) (ht : ∀ D σ H, (ta σ H fun vs H1 => vs.length = is.length ∧ D.nx (setAll is vs σ) H1) → t D σ H) : SEV K W t (fPar is fa) := fun S σ H Φ A F G st out ho D q => by
  apply ht
  refine runSA (t := ta) h st ho q fun rs S1 vs H1 Φ1 A1 T F1 G1 sp st1 rv nd h1 => ?_
  cases e1 : kids rs S1 with
  | none => rw [e1] at h1; cases h1
  | some z =>
    obtain ⟨xs, S2⟩ := z
    rw [e1] at h1
    obtain ⟨Φ2, F2, sp2, st2, rs2, fz2⟩ := kids_ok st1 rv nd e1
    have nd2 : (T ++ (F2 ++ G1)).Nodup := sp2.apart (fun b hb => (rv.there b hb).1) nd st2.nd
    have h1 : (putAll is xs S2).map SO.nx = some out := h1
    cases e2 : putAll is xs S2 with
    | none => rw [e2] at h1; cases h1
    | some S3 =>
      rw [e2] at h1; cases h1
      obtain ⟨F3, st3, h3⟩ := putAll_ok st2 rs2 nd2 e2
      have hl : ∀ {is : List Nat} {xs : List SV} {S S' : Sto}, putAll is xs S = some S' → xs.length = is.length := by
        intro is
        induction is with
        | nil => intro xs S S' e; cases xs with
          | nil => rfl
          | cons => cases e
        | cons i is ih =>
          intro xs S S' e
          cases xs with
          | nil => cases e
          | cons x xs =>
            have e : (match S.put i x with | some S1 => putAll is xs S1 | none => none) = some S' := by rw [← e]; rfl
            cases e1 : S.put i x with
            | none => rw [e1] at e; cases e
            | some ρ1 => rw [e1] at e; exact congrArg (· + 1) (ih e)
      have s12 : Step F G H Φ A (T ++ F2) G1 H1 Φ2 A1 := Step.trans (T1 := []) sp sp2
      exact ⟨by rw [rs2.length]; exact hl e2, q _ H1 Φ2 A1 F3 G1 (s12.run.sub fun b hb => hb.imp_left fun h => by simpa using h3 b h) st3⟩
theorem ds_par2 {i j : Nat} {x y : Str} {a b : Expr} {px py pt : Pos} {kt k2 pt2} (hc : X.calm = true) (hN : X.N.Nodup) (ha : DA X W [a, b] ta fa) (hi : X.N[i]? = some x := by rfl) (hj : X.N[j]? = some y := by rfl) (hij : i ≠ j := by decide)
    (hx : X.env.scope.names.lookup x = some .local := by rfl) (hy : X.env.scope.names.lookup y = some .local := by rfl)
    (hw : swappedStores [.Tuple [.Name x px, .Name y py] kt pt] (.Tuple [a, b] k2 pt2) X.env = pure (some [x, y]) := by rfl)
    (hs : swapsWithSole [.Tuple [.Name x px, .Name y py] kt pt] (.Tuple [a, b] k2 pt2) pos.line X.env = pure false := by rfl) :
    DS X W (.Assign [.Tuple [.Name x px, .Name y py] kt pt] (.Tuple [a, b] k2 pt2) pos) (tPar i j ta) (fPar [i, j] fa) := ⟨ps_par hc hN hi hj hij hx hy ha.pe hw hs, ev_par ha.ev fun D σ H h => by
  have e : (fun vs H1 => List.length vs = [i, j].length ∧ D.nx (setAll [i, j] vs σ) H1) = fun vs H1 => ∃ v w, vs = [v, w] ∧ D.nx ((σ.set i (some v)).set j (some w)) H1 := by
    funext vs H1
    apply propext
    constructor
    · rintro ⟨hl, z⟩
      match vs, hl, z with
      | [v, w], _, z => exact ⟨v, w, rfl, z⟩
    · rintro ⟨v, w, rfl, z⟩
      exact ⟨rfl, z⟩
  rw [e] at h
  exact h⟩
theorem ds_par3 {i j l : Nat} {x y z : Str} {a b c : Expr} {px py pz pt : Pos} {kt k2 pt2} (hc : X.calm = true) (hN : X.N.Nodup) (ha : DA X W [a, b, c] ta fa) (hi : X.N[i]? = some x := by rfl) (hj : X.N[j]? = some y := by rfl) (hl : X.N[l]? = some z := by rfl) (hij : i ≠ j := by decide) (hil : i ≠ l := by decide) (hjl : j ≠ l := by decide)
    (hx : X.env.scope.names.lookup x = some .local := by rfl) (hy : X.env.scope.names.lookup y = some .local := by rfl) (hz : X.env.scope.names.lookup z = some .local := by rfl)
    (hw : swappedStores [.Tuple [.Name x px, .Name y py, .Name z pz] kt pt] (.Tuple [a, b, c] k2 pt2) X.env = pure (some [x, y, z]) := by rfl)
    (hs : swapsWithSole [.Tuple [.Name x px, .Name y py, .Name z pz] kt pt] (.Tuple [a, b, c] k2 pt2) pos.line X.env = pure false := by rfl) :
    DS X W (.Assign [.Tuple [.Name x px, .Name y py, .Name z pz] kt pt] (.Tuple [a, b, c] k2 pt2) pos) (tPar3 i j l ta) (fPar [i, j, l] fa) := ⟨ps_par3 hc hN hi hj hl hij hil hjl hx hy hz ha.pe hw hs, ev_par ha.ev fun D σ H h => by
  have e : (fun vs H1 => List.length vs = [i, j, l].length ∧ D.nx (setAll [i, j, l] vs σ) H1) = fun vs H1 => ∃ u v w, vs = [u, v, w] ∧ D.nx (((σ.set i (some u)).set j (some v)).set l (some w)) H1 := by
    funext vs H1
    apply propext
    constructor
    · rintro ⟨hl, z⟩
      match vs, hl, z with
      | [u, v, w], _, z => exact ⟨u, v, w, rfl, z⟩
    · rintro ⟨u, v, w, rfl, z⟩
      exact ⟨rfl, z⟩
  rw [e] at h
  exact h⟩
/-- a, b, .. = x, y, .. where a tuple is made (a name is captured): the names one by one, each as it is -/
inductive DNs (X : Cx) : List Expr → TGs → List Nat → Prop where
  | nil : DNs X [] gNil []
  | cons {x : Str} {i : Nat} {pos : Pos} {es : List Expr} {gs : TGs} {is : List Nat} (h : PG X (.Name x pos) (gName i)) (hs : (assignEach (.Name x pos :: es) X.env).map (·.2) = assign (.Name x pos) X.env :: (assignEach es X.env).map (·.2)) (t : DNs X es gs is) : DNs X (.Name x pos :: es) (gCons (gName i) gs) (i :: is)
theorem dn_cons {x : Str} {i : Nat} {es : List Expr} {gs : TGs} {is : List Nat} (hN : X.N.Nodup) (t : DNs X es gs is) (hi : X.N[i]? = some x := by rfl) (hx : Loc X.env.scope x := by first | exact Or.inl rfl | exact Or.inr rfl) (hf : X.fn x = true ∨ X.env.scope.names.lookup x = some .local := by first | exact .inl rfl | exact .inr rfl)
    (hs : (assignEach (.Name x pos :: es) X.env).map (·.2) = assign (.Name x pos) X.env :: (assignEach es X.env).map (·.2) := by rfl) : DNs X (.Name x pos :: es) (gCons (gName i) gs) (i :: is) := .cons (pg_name hN hi hx hf) hs t
theorem DNs.pgs {es : List Expr} {gs : TGs} {is : List Nat} (h : DNs X es gs is) : PGs X es gs := by
  induction h with
  | nil => exact pgs_nil
  | cons h hs t ih => exact pgs_cons h ih hs
theorem DNs.all {es : List Expr} {gs : TGs} {is : List Nat} (h : DNs X es gs is) : ∀ {vs : List V} {σ : Sl} {H : Hp} {Q : Sl → Hp → Prop}, vs.length = is.length → Q (setAll is vs σ) H → gs vs σ H Q := by
  induction h with
  | nil => intro vs σ H Q hl q; cases vs with
    | nil => exact ⟨rfl, q⟩
    | cons => simp at hl
  | cons h hs t ih => intro vs σ H Q hl q; cases vs with
    | nil => simp at hl
    | cons v vs => exact ⟨v, vs, rfl, ih (by simpa using hl) q⟩
theorem ds_parT {es ts : List Expr} {gs : TGs} {is : List Nat} {kt k2 : Nat} {pt pt2 : Pos} (hc : X.calm = true) (ha : DA X W es ta fa) (hg : DNs X ts gs is) (hn : (assignEach ts X.env).length = is.length := by rfl) (hst : (assignEach ts X.env).findIdx? (·.1) = none := by rfl)
    (hs : swapsWithSole [.Tuple ts kt pt] (.Tuple es k2 pt2) pos.line X.env = pure false := by rfl) (hw : swappedStores [.Tuple ts kt pt] (.Tuple es k2 pt2) X.env = pure none := by rfl)
    (h1 : (assignEach [.Tuple ts kt pt] X.env).map (·.2) = [assign (.Tuple ts kt pt) X.env] := by rfl) (hz : is.length ≤ 1000 := by decide) :
    DS X W (.Assign [.Tuple ts kt pt] (.Tuple es k2 pt2) pos) (tAsg (tTup ta) (gTup X.K is.length gs)) (fPar is fa) := ⟨ps_asg (pe_tup ha.pe) (pg_tup hc hg.pgs hn hst) hs hw h1, fun S σ H Φ A F G st out ho D q => by
  refine runSA (t := ta) ha.ev st ho q fun rs S1 vs H1 Φ1 A1 T F1 G1 sp st1 rv nd h1 => ?_
  cases e1 : kids rs S1 with
  | none => rw [e1] at h1; cases h1
  | some z =>
    obtain ⟨xs, S2⟩ := z
    rw [e1] at h1
    obtain ⟨Φ2, F2, sp2, st2, rs2, fz2⟩ := kids_ok st1 rv nd e1
    have nd2 : (T ++ (F2 ++ G1)).Nodup := sp2.apart (fun b hb => (rv.there b hb).1) nd st2.nd
    have h1 : (putAll is xs S2).map SO.nx = some out := h1
    cases e2 : putAll is xs S2 with
    | none => rw [e2] at h1; cases h1
    | some S3 =>
      rw [e2] at h1; cases h1
      have hl : ∀ {is : List Nat} {xs : List SV} {S S' : Sto}, putAll is xs S = some S' → xs.length = is.length := by
        intro is
        induction is with
        | nil => intro xs S S' e; cases xs with
          | nil => rfl
          | cons => cases e
        | cons i is ih =>
          intro xs S S' e
          cases xs with
          | nil => cases e
          | cons x xs =>
            have e : (match S.put i x with | some S1 => putAll is xs S1 | none => none) = some S' := by rw [← e]; rfl
            cases e1 : S.put i x with
            | none => rw [e1] at e; cases e
            | some ρ1 => rw [e1] at e; exact congrArg (· + 1) (ih e)
      have hlen : vs.length = is.length := by rw [rs2.length]; exact hl e2
      refine ⟨by rw [hlen]; exact k1000 hz, fun p hp => ⟨p, vs, rfl, SqT.of upd_same, hlen, hg.all hlen ?_⟩⟩
      -- the tuple is of no further use
      have hold : ∀ b, H1 b ≠ none → upd H1 p (.tup vs) b = H1 b := fun b hb => upd_ne fun z => hb (by rw [z]; exact hp)
      have st2' : Stands X.K S2 σ (upd H1 p (.tup vs)) Φ2 A1 F2 G1 := ⟨st2.le.trans (upd_same' hp), st2.ro.frame (Same.refl _) Pfx.refl (fun b hb => hold b (st2.ro.there b hb).1) (fun b hb => (st2.ro.there b hb).2), st2.rc.frame (Same.refl _) Pfx.refl (fun b hb => hold b (st2.rc.there b hb).1) (fun b hb => (st2.rc.there b hb).2), st2.nd⟩
      have rs2' : RSs X.K Φ2 (upd H1 p (.tup vs)) A1 vs xs T := rs2.frame (Same.refl _) Pfx.refl (fun b hb => hold b (rs2.there b hb).1) (fun b hb => (rs2.there b hb).2)
      obtain ⟨F3, st3, h3⟩ := putAll_ok st2' rs2' nd2 e2
      have s12 : Step F G H Φ A (T ++ F2) G1 H1 Φ2 A1 := Step.trans (T1 := []) sp sp2
      refine q _ _ Φ2 A1 F3 G1 ⟨fun b o e hf hg => upd_same' hp _ _ (s12.keep b o e hg), s12.le, s12.grow, fun b hb => ?_, fun b hb => ?_, s12.cells⟩ st3
      · rcases hb with hb | hb
        · exact s12.ownF b (by simpa using h3 b hb)
        · exact .inr (s12.ownG b hb)
      · rw [hold b (s12.live b hb)]; exact s12.live b hb⟩
/-! ### what a loop walks -/
/-- at each turn the datum, with the heap grown at most -/
def Walk (K : PySem.W.Frag) (Φ0 : Hp) (J : It) (ds : List D) : Prop := ∀ S σ H Φ A F G, Stands K S σ H Φ A F G → Same Φ0 Φ → ∀ i,
  (∀ d, ds[i]? = some d → J.go i H ∧ ∀ x H', J.yld i H x H' → ∃ Φ', Step F G H Φ A F G H' Φ' A ∧ Stands K S σ H' Φ' A F G ∧ Rp K Φ' x d) ∧ (i = ds.length → J.stop i H)
abbrev FI := Sto → Option (Out (List D))
def PostI (K : PySem.W.Frag) (W : WX) (S : Sto) (σ : Sl) (H Φ : Hp) (A F G : List Addr) (R : It → Hp → Prop) : Out (List D) → Prop
  | .ok ds S' => ∀ J H' Φ' A' F' G', Step F G H Φ A F' G' H' Φ' A' → Stands K S' σ H' Φ' A' F' G' → Frz S S' → Walk K Φ' J ds → R J H'
  | .exc e S' => XP K W S σ H Φ A F G e S'
def IEV (K : PySem.W.Frag) (W : WX) (w : TI) (f : FI) : Prop := ∀ S σ H Φ A F G, Stands K S σ H Φ A F G → ∀ out, f S = some out → ∀ R, PostI K W S σ H Φ A F G R out → w σ H R
structure DI (X : Cx) (W : WX) (tg e : Expr) (w : TI) (f : FI) : Prop where
  pi : PI X tg e w
  ev : IEV X.K W w f
/-- for target in ..: the body at each -/
def forF (tg : Tg) (f : FS) : List D → FS
  | [], S => some (.nx S)
  | d :: r, S => match tgS tg d S.ρ with
    | some ρ => match f { S with ρ := ρ } with
      | some (.nx S1) => forF tg f r S1
      | some (.ct S1) => forF tg f r S1
      | some (.bk S1) => some (.nx S1)
      | o => o
    | none => none
def fFor (tg : Tg) (fi : FI) (f : FS) : FS := bindS fi fun ds => forF tg f ds
theorem ds_for {iter : Expr} {body : List Stmt} {wi : TI} {g : TG} {tt : Tg} {fi : FI} (hc : X.calm = true) (hi : DI X W tg iter wi fi) (hg : DG X tg g tt) (hb : DB X W body t f) (hp : PassesOwn (model X.prog X.w) X.A X.env X.xe := by first | exact PassesOwn.never | exact passes_of rfl)
    (hs : ∀ x, foldedSetIterable iter X.env x = pure x := by intro _; rfl) : DS X W (.For tg iter body [] pos) (tFor wi g t) (fFor tt fi f) := ⟨ps_for hp hc hi.pi hg.pg hb.ps hs, fun S σ H Φ A F G st out ho D q => by
  have ho : bindS fi (fun ds => forF tt f ds) S = some out := ho
  unfold bindS at ho
  cases e : fi S with
  | none => rw [e] at ho; cases ho
  | some o =>
    rw [e] at ho
    cases o with
    | exc x S1 => cases ho; exact hi.ev S σ H Φ A F G st _ e _ (XS.xp (σ := σ) q)
    | ok ds S1 =>
      refine hi.ev S σ H Φ A F G st _ e _ fun J H1 Φ1 A1 F1 G1 sp st1 fz wk => ?_
      have ho : forF tt f ds S1 = some out := ho
      refine ⟨fun i m σ2 H2 => i + m = ds.length ∧ ∃ S2 Φ2 A2 F2 G2, Run F G H Φ A F2 G2 H2 Φ2 A2 ∧ Stands X.K S2 σ2 H2 Φ2 A2 F2 G2 ∧ Same Φ1 Φ2 ∧ forF tt f (ds.drop i) S2 = some out,
        ⟨ds.length, by omega, S1, Φ1, A1, F1, G1, sp.run, st1, Same.refl _, by simpa using ho⟩, ?_⟩
      rintro i m σ2 H2 ⟨em, S2, Φ2, A2, F2, G2, rn, st2, le2, h2⟩
      obtain ⟨w1, w2⟩ := wk S2 σ2 H2 Φ2 A2 F2 G2 st2 le2 i
      by_cases hi : i < ds.length
      · have ed : ds[i]? = some ds[i] := List.getElem?_eq_getElem hi
        obtain ⟨jgo, jy⟩ := w1 _ ed
        have ec : ds.drop i = ds[i] :: ds.drop (i + 1) := List.drop_eq_getElem_cons hi
        rw [ec] at h2
        refine .inr ⟨jgo, fun σ' H' => ∃ S3 Φ3 A3 F3 G3, Run F G H Φ A F3 G3 H' Φ3 A3 ∧ Stands X.K S3 σ' H' Φ3 A3 F3 G3 ∧ Same Φ1 Φ3 ∧ forF tt f (ds.drop (i + 1)) S3 = some out,
          fun σ' H' ⟨S3, Φ3, A3, F3, G3, r3, s3, l3, h3⟩ => ⟨m - 1, by omega, by omega, S3, Φ3, A3, F3, G3, r3, s3, l3, h3⟩, fun x H' hy => ?_⟩
        obtain ⟨Φ3, sp3, st3, rp3⟩ := jy x H' hy
        have h2 : (match tgS tt ds[i] S2.ρ with
          | some ρ => match f { S2 with ρ := ρ } with
            | some (.nx S1) => forF tt f (ds.drop (i + 1)) S1
            | some (.ct S1) => forF tt f (ds.drop (i + 1)) S1
            | some (.bk S1) => some (.nx S1)
            | o => o
          | none => none) = some out := h2
        cases e3 : tgS tt ds[i] S2.ρ with
        | none => rw [e3] at h2; cases h2
        | some ρ =>
          rw [e3] at h2
          refine hg.ev S2 σ2 H' Φ3 A2 F2 G2 x ds[i] ρ st3 rp3 e3 _ fun σ4 F4 st4 hF4 _ => ?_
          have rn4 : Run F G H Φ A F4 G2 H' Φ3 A2 := (rn.trans sp3.run).sub fun b hb => hb.imp_left (hF4 b)
          have le4 : Same Φ1 Φ3 := le2.trans sp3.le
          cases e4 : f { S2 with ρ := ρ } with
          | none => simp only [e4] at h2; cases h2
          | some o4 =>
            simp only [e4] at h2
            refine hb.ev _ σ4 H' Φ3 A2 F4 G2 st4 o4 e4 _ ?_
            cases o4 with
            | nx S5 => exact fun σ5 H5 Φ5 A5 F5 G5 r5 s5 => ⟨S5, Φ5, A5, F5, G5, rn4.trans r5, s5, le4.trans r5.le, h2⟩
            | ct S5 => exact fun σ5 H5 Φ5 A5 F5 G5 r5 s5 => ⟨S5, Φ5, A5, F5, G5, rn4.trans r5, s5, le4.trans r5.le, h2⟩
            | bk S5 => cases h2; exact fun σ5 H5 Φ5 A5 F5 G5 r5 s5 => q σ5 H5 Φ5 A5 F5 G5 (rn4.trans r5) s5
            | rt x μ => cases h2; exact fun v H5 Φ5 A5 T5 G5 r5 s5 rs5 nd5 => q v H5 Φ5 A5 T5 G5 (rn4.trans r5) s5 rs5 nd5
            | exc x S5 => cases h2; exact fun c d σ5 H5 Φ5 A5 F5 G5 r5 s5 rx => q c d σ5 H5 Φ5 A5 F5 G5 (rn4.trans r5) s5 rx
      · have ei : i = ds.length := by omega
        rw [List.drop_eq_nil_of_le (by omega)] at h2
        cases h2
        exact .inl ⟨w2 ei, q σ2 H2 Φ2 A2 F2 G2 rn st2⟩⟩
/-! ### while -/
def whileF : Nat → FT → FS → FS
  | 0, _, _, _ => none
  | n + 1, c, f, S => match c S with
    | some (.ok true S1) => match f S1 with
      | some (.nx S2) => whileF n c f S2
      | some (.ct S2) => whileF n c f S2
      | some (.bk S2) => some (.nx S2)
      | o => o
    | some (.ok false S1) => some (.nx S1)
    | some (.exc e S1) => some (.exc e S1)
    | none => none
theorem ds_while {n : Nat} {c : Expr} {body : List Stmt} {tc : TT} {fc : FT} (hc : DT X W c tc fc) (hb : DB X W body t f) (hp : PassesOwn (model X.prog X.w) X.A X.env X.xe := by first | exact PassesOwn.never | exact passes_of rfl) : DS X W (.While c body [] pos) (tWhile tc t) (whileF n fc f) := ⟨ps_while hp hc.pe hb.ps, fun S σ H Φ A F G st out ho D q => by
  refine ⟨fun m σ2 H2 => ∃ S2 Φ2 A2 F2 G2, Run F G H Φ A F2 G2 H2 Φ2 A2 ∧ Stands X.K S2 σ2 H2 Φ2 A2 F2 G2 ∧ whileF m fc f S2 = some out, ⟨n, S, Φ, A, F, G, .refl, st, ho⟩, ?_⟩
  rintro m σ2 H2 ⟨S2, Φ2, A2, F2, G2, rn, st2, h2⟩
  cases m with
  | zero => cases h2
  | succ m =>
    have h2 : (match fc S2 with
      | some (.ok true S1) => match f S1 with
        | some (.nx S2) => whileF m fc f S2
        | some (.ct S2) => whileF m fc f S2
        | some (.bk S2) => some (.nx S2)
        | o => o
      | some (.ok false S1) => some (.nx S1)
      | some (.exc e S1) => some (.exc e S1)
      | none => none) = some out := h2
    cases e : fc S2 with
    | none => rw [e] at h2; cases h2
    | some o =>
      rw [e] at h2
      cases o with
      | exc x S3 =>
        cases h2
        exact hc.ev S2 σ2 H2 Φ2 A2 F2 G2 st2 _ e _ fun c d H' Φ' A' F' G' sp st' rx _ => q c d σ2 H' Φ' A' F' G' (rn.trans sp.run) st' rx
      | ok b S3 =>
        refine hc.ev S2 σ2 H2 Φ2 A2 F2 G2 st2 _ e _ fun H3 Φ3 A3 F3 G3 sp3 st3 fz3 => ?_
        have rn3 := rn.trans sp3.run
        cases b with
        | false => rw [if_neg (by decide)]; cases h2; exact q σ2 H3 Φ3 A3 F3 G3 rn3 st3
        | true =>
          rw [if_pos rfl]
          refine ⟨fun σ' H' => ∃ S4 Φ4 A4 F4 G4, Run F G H Φ A F4 G4 H' Φ4 A4 ∧ Stands X.K S4 σ' H' Φ4 A4 F4 G4 ∧ whileF m fc f S4 = some out, fun σ' H' h => ⟨m, Nat.lt_succ_self m, h⟩, ?_⟩
          cases e4 : f S3 with
          | none => simp only [e4] at h2; cases h2
          | some o4 =>
            simp only [e4] at h2
            refine hb.ev S3 σ2 H3 Φ3 A3 F3 G3 st3 o4 e4 _ ?_
            cases o4 with
            | nx S5 => exact fun σ5 H5 Φ5 A5 F5 G5 r5 s5 => ⟨S5, Φ5, A5, F5, G5, rn3.trans r5, s5, h2⟩
            | ct S5 => exact fun σ5 H5 Φ5 A5 F5 G5 r5 s5 => ⟨S5, Φ5, A5, F5, G5, rn3.trans r5, s5, h2⟩
            | bk S5 => cases h2; exact fun σ5 H5 Φ5 A5 F5 G5 r5 s5 => q σ5 H5 Φ5 A5 F5 G5 (rn3.trans r5) s5
            | rt x μ => cases h2; exact fun v H5 Φ5 A5 T5 G5 r5 s5 rs5 nd5 => q v H5 Φ5 A5 T5 G5 (rn3.trans r5) s5 rs5 nd5
            | exc x S5 => cases h2; exact fun c d σ5 H5 Φ5 A5 F5 G5 r5 s5 rx => q c d σ5 H5 Φ5 A5 F5 G5 (rn3.trans r5) s5 rx⟩
end

/-! ### a def by its body -/
/-- a def of n parameters and m slots, its body f -/
def runF (n m : Nat) (f : FS) : FnS := fun as μ => if as.length = n then match f ⟨as.map some ++ List.replicate (m - n) none, μ⟩ with
    | some (.nx S) => some (.ok (.dat .non) S.μ)
    | some (.rt x μ) => some (.ok x μ)
    | some (.exc e S) => some (.exc e S.μ)
    | _ => none
  else none
theorem runF_len {n m : Nat} {f : FS} : ∀ as μ res, runF n m f as μ = some res → as.length = n := fun as μ res h => by
  unfold runF at h
  split at h
  · assumption
  · cases h
theorem ro_none {K : PySem.W.Frag} {Φ H : Hp} {A : List Addr} : ∀ k : Nat, RO K Φ H A (List.replicate k none) (List.replicate k none) []
  | 0 => .nil
  | k + 1 => .non (ro_none k)
theorem ro_of {K : PySem.W.Frag} {Φ H : Hp} {A : List Addr} {σ : Sl} {ρ : List (Option SV)} (r : RO K Φ H A σ ρ []) : ∀ {vs : List V} {xs : List SV} {F : List Addr}, RSs K Φ H A vs xs F → RO K Φ H A (vs.map some ++ σ) (xs.map some ++ ρ) F
  | _, _, _, .nil => r
  | _, _, _, .cons q s => .som q (ro_of r s)
section
variable {P : Program} {w : World} {K : PySem.W.Frag} {mg : Str → Option Value} {base : Heap}
theorem fg_body {x qual : Str} {st : Stmt} {f : Addr} {fd : FuncData} {N ps : List Str} {k : Nat} {fb : FS} (n m : Nat) (T : Fun K x qual st f fd) (C : FnScope N ps (defScope st)) (hn : ps.length = n) (hm : N.length = m)
    (body : ∀ (cdv : Value) (A : Around) (outer : List Env) (s : Shared) (H : Hp) (E : XK), Room k (A.deeper (envOfC qual (defScope st) s.heap.objs.size f cdv)) → A.guards = some [] →
      ∃ t, DB (cxOf (L2.CX P w) P w K mg base N qual (defScope st) f cdv A outer s H E) (fun c d _ H => E c d H) (defBody st) t fb) : FG P w K mg base (k + 1) f fd ps (spF K n (runF n m fb)) := by
  refine fg_of T C (fun vs H Q E h => h.1.trans hn.symm) fun cdv A outer s H vs Q E room gd want => ?_
  obtain ⟨hl, Φ, Ad, G, μ, as, res, st0, ra, hf, post⟩ := want
  obtain ⟨t, d⟩ := body cdv A outer s H E room gd
  refine ⟨t, d.ps, ?_⟩
  have las : as.length = n := by rw [← ra.length]; exact hl
  unfold runF at hf
  rw [if_pos las] at hf
  have eσ : L2.start N vs = vs.map some ++ List.replicate (m - n) none := by unfold L2.start; rw [hm, hl]
  have st1 : Stands K ⟨as.map some ++ List.replicate (m - n) none, μ⟩ (L2.start N vs) H Φ Ad [] G := by
    rw [eσ]
    exact ⟨st0.le, ro_of (ro_none _) ra, st0.rc, st0.nd⟩
  have toStep : ∀ {T' G' : List Addr} {H' Φ' : Hp} {A' : List Addr}, Run [] G H Φ Ad T' G' H' Φ' A' → Step [] G H Φ Ad T' G' H' Φ' A' := fun r => ⟨fun b o e hn => r.keep b o e (by simp) hn, r.le, r.grow, fun b hb => r.own b (.inl hb), fun b hb => (r.own b (.inr hb)).elim (fun z => by simp at z) id, r.live, r.cells⟩
  cases e : fb ⟨as.map some ++ List.replicate (m - n) none, μ⟩ with
  | none => rw [e] at hf; cases hf
  | some out =>
    rw [e] at hf
    refine d.ev _ (L2.start N vs) H Φ Ad [] G st1 out e _ ?_
    cases out with
    | nx S' =>
      cases hf
      intro σ' H' Φ' A' F' G' rn st'
      exact post .non H' Φ' A' [] G' (toStep (rn.sub fun b hb => hb.elim (fun h => by simp at h) .inr)) ⟨st'.le, .nil, st'.rc, (List.nodup_append.mp st'.nd).2.1⟩ (.dat .non) (by simpa using (List.nodup_append.mp st'.nd).2.1)
    | rt x μ' =>
      cases hf
      exact fun v H' Φ' A' T' G' rn st' rs nd => post v H' Φ' A' T' G' (toStep rn) st' rs nd
    | exc ex S' =>
      cases hf
      exact fun c dd σ' H' Φ' A' F' G' rn st' rx => post c dd H' Φ' A' G' (toStep (rn.sub fun b hb => hb.elim (fun h => by simp at h) .inr)) ⟨st'.le, .nil, st'.rc, (List.nodup_append.mp st'.nd).2.1⟩ rx
    | bk S' => cases hf
    | ct S' => cases hf
end
end L3

namespace L3
open PySem PySem.Spec PyProof.Rows L2

/-! ### data as the library has them -/
mutual
def D.py : D → Option PyData
  | .non => some .none
  | .bl b => some (.bool b)
  | .int i => some (.int i)
  | .str x => some (.str x)
  | .lst xs => (pys xs).map PyData.list
  | .tup xs => (pys xs).map PyData.tuple
  | .dK _ _ => none
  | .dT _ _ => none
  | .fn _ => none
def pys : List D → Option (List PyData)
  | [] => some []
  | d :: ds => (d.py).bind fun p => (pys ds).map fun ps => p :: ps
end
mutual
theorem Rp.dp {K : PySem.W.Frag} {H : Hp} : ∀ {v : V} {d : D} {p : PyData}, Rp K H v d → d.py = some p → Dp K H v p
  | _, _, _, .non, e => by unfold D.py at e; cases e; exact .non
  | _, _, _, .bl b, e => by unfold D.py at e; cases e; exact .bl b
  | _, _, _, .int i, e => by unfold D.py at e; cases e; exact .int i
  | _, _, _, .str x, e => by unfold D.py at e; cases e; exact .str x
  | _, _, p, .lst (ds := ds) q r, e => by
    have e : (pys ds).map PyData.list = some p := by rw [← e]; unfold D.py; rfl
    cases e2 : pys ds with
    | none => rw [e2] at e; cases e
    | some ps => rw [e2] at e; cases e; exact .lst q (Rps.dp r e2)
  | _, _, p, .tup (ds := ds) q r, e => by
    have e : (pys ds).map PyData.tuple = some p := by rw [← e]; unfold D.py; rfl
    cases e2 : pys ds with
    | none => rw [e2] at e; cases e
    | some ps => rw [e2] at e; cases e; exact .tup q (Rps.dp r e2)
  | _, _, _, .dK _ _ _, e => by unfold D.py at e; cases e
  | _, _, _, .dT _ _ _, e => by unfold D.py at e; cases e
  | _, _, _, .fn _, e => by unfold D.py at e; cases e
theorem Rps.dp {K : PySem.W.Frag} {H : Hp} : ∀ {vs : List V} {ds : List D} {ps : List PyData}, Rps K H vs ds → pys ds = some ps → DpAll K H vs ps
  | _, _, _, .nil, e => by unfold pys at e; cases e; exact .nil
  | _, _, ps, .cons (d := d) (ds := ds) q r, e => by
    rw [pys] at e
    cases e1 : d.py with
    | none => rw [e1] at e; cases e
    | some p =>
      cases e2 : pys ds with
      | none => rw [e1, e2] at e; cases e
      | some qs => rw [e1, e2] at e; cases e; exact .cons (Rp.dp q e1) (Rps.dp r e2)
end

/-! ### == of data -/
def eqP (x y : D) : Option Bool := match x.py, y.py with
  | some p, some q => if SeqAt.shaped p = true ∧ SeqAt.shaped q = true then some (PyData.eqv p q) else none
  | _, _ => none
def eqD (x y : D) : Option Bool := match x, y with
  | .str a, .str b => some (decide (a = b))
  | .int a, .int b => some (decide (a = b))
  | x, y => eqP x y
def dEq : D → D → Option D := fun x y => (eqD x y).map D.bl
def dNe : D → D → Option D := fun x y => (eqD x y).map fun b => .bl (!b)
def rEqA (K : PySem.W.Frag) : R2 := fun x y H Q => rEq x y H Q ∨ rEqD K x y H Q
def rNeA (K : PySem.W.Frag) : R2 := fun x y H Q => rNe x y H Q ∨ rNeD K x y H Q
theorem op_eqA {X : Cx} (hu : X.A.units + 64 < cLine) : OpR X (compareOp .Eq) (rEqA X.K) := op_eq.or (op_eqD hu)
theorem op_neA {X : Cx} (hu : X.A.units + 64 < cLine) : OpR X (compareOp .NotEq) (rNeA X.K) := op_ne.or (op_neD hu)
theorem eqD_ok {K : PySem.W.Frag} {H : Hp} {x y : V} {dx dy : D} {b : Bool} (rx : Rp K H x dx) (ry : Rp K H y dy) (e : eqD dx dy = some b) :
    (scal x y = true ∧ b = decide (x = y)) ∨ ∃ p q, Dp K H x p ∧ Dp K H y q ∧ SeqAt.shaped p = true ∧ SeqAt.shaped q = true ∧ b = PyData.eqv p q := by
  have gen : eqP dx dy = some b → ∃ p q, Dp K H x p ∧ Dp K H y q ∧ SeqAt.shaped p = true ∧ SeqAt.shaped q = true ∧ b = PyData.eqv p q := fun e => by
    unfold eqP at e
    cases e1 : dx.py with
    | none => rw [e1] at e; cases e
    | some p =>
      cases e2 : dy.py with
      | none => rw [e1, e2] at e; cases e
      | some p' =>
        rw [e1, e2] at e
        dsimp only at e
        by_cases h : SeqAt.shaped p = true ∧ SeqAt.shaped p' = true
        · rw [if_pos h] at e; cases e
          exact ⟨p, p', rx.dp e1, ry.dp e2, h.1, h.2, rfl⟩
        · rw [if_neg h] at e; cases e
  unfold eqD at e
  split at e
  · cases e; cases rx; cases ry
    exact .inl ⟨rfl, by simp⟩
  · cases e; cases rx; cases ry
    exact .inl ⟨rfl, by simp⟩
  · exact .inr (gen e)
theorem og_eq {K : PySem.W.Frag} : OpG K (rEqA K) (g2 dEq) := opG_scal fun H x y dx dy z rx ry e Q q => by
  unfold dEq at e
  cases e1 : eqD dx dy with
  | none => rw [e1] at e; cases e
  | some b =>
    rw [e1] at e; cases e
    rcases eqD_ok rx ry e1 with ⟨h, rfl⟩ | ⟨p, p', h1, h2, h3, h4, rfl⟩
    · exact .inl ⟨h, q _ fun H' => .bl _⟩
    · exact .inr ⟨p, p', h1, h2, h3, h4, q _ fun H' => .bl _⟩
theorem og_ne {K : PySem.W.Frag} : OpG K (rNeA K) (g2 dNe) := opG_scal fun H x y dx dy z rx ry e Q q => by
  unfold dNe at e
  cases e1 : eqD dx dy with
  | none => rw [e1] at e; cases e
  | some b =>
    rw [e1] at e; cases e
    rcases eqD_ok rx ry e1 with ⟨h, rfl⟩ | ⟨p, p', h1, h2, h3, h4, rfl⟩
    · exact .inl ⟨h, q _ fun H' => .bl _⟩
    · exact .inr ⟨p, p', h1, h2, h3, h4, q _ fun H' => .bl _⟩
/-! ### is None -/
def SV.isN : SV → Bool
  | .dat .non => true
  | _ => false
def gIs (neg : Bool) : G2 := fun ra rb S => match ra.sv S, rb.sv S with
  | some a, some (.dat .non) => some (.b (if neg then !a.isN else a.isN), S)
  | _, _ => none
theorem isN_ok {K : PySem.W.Frag} {Φ H : Hp} {A : List Addr} {v : V} {x : SV} {T : List Addr} (h : RS K Φ H A v x T) : decide (v = .non) = x.isN := by
  cases h with
  | dat q => cases q <;> simp [SV.isN]
  | node => simp [SV.isN]
  | cell => simp [SV.isN]
theorem og_is {K : PySem.W.Frag} (neg : Bool) : OpG K (fun x y H Q => y = .non ∧ Q (.bl (if neg then !decide (x = .non) else decide (x = .non))) H) (gIs neg) := by
  intro S σ H Φ A F G x y ra rb T U st rx ry nd rz S' e Q q
  unfold gIs at e
  cases e1 : ra.sv S with
  | none => rw [e1] at e; cases e
  | some a =>
    cases e2 : rb.sv S with
    | none => rw [e1, e2] at e; cases e
    | some b =>
      rw [e1, e2] at e
      obtain ⟨Ua, qa, _⟩ := rx.rs st e1
      cases b with
      | dat db =>
        cases db <;> try cases e
        have hy : y = .non := by cases ry.dat st e2; rfl
        refine ⟨hy, ?_⟩
        rw [isN_ok qa]
        exact q _ H Φ A [] F G ⟨fun _ _ e _ => e, fun _ _ e => e, fun _ _ e => .inl e, fun b hb => .inl (by simp only [List.nil_append] at hb; simp [hb]), fun _ h => .inl h, fun _ h => h, Pfx.refl⟩ st (RS.dat (.bl _)) (by simpa using st.nd) .refl
      | node n xs => cases e
      | cell k => cases e
theorem og_isN {K : PySem.W.Frag} : OpG K (fun x y H Q => y = .non ∧ Q (.bl (decide (x = .non))) H) (gIs false) := og_is false
theorem og_notN {K : PySem.W.Frag} : OpG K (fun x y H Q => y = .non ∧ Q (.bl (!decide (x = .non))) H) (gIs true) := og_is true
/-! ### + -/
/-- the items of two, both frozen -/
theorem its2_ok {K : PySem.W.Frag} {S : Sto} {σ : Sl} {H Φ : Hp} {A F G T U : List Addr} {x y : V} {ra rb : R} (st : Stands K S σ H Φ A F G) (hx : RV K Φ H A S σ x ra T) (hy : RV K Φ H A S σ y rb U) (nd : (T ++ (U ++ (F ++ G))).Nodup)
    {t t' : Bool} {xs ys : List D} (e1 : ra.its S = some (t, xs)) (e2 : rb.its S = some (t', ys)) :
    ∃ Φ' a b vs ws, x = .ref a ∧ y = .ref b ∧ SeqV K H a t vs ∧ SeqV K H b t' ws ∧ Rps K Φ' vs xs ∧ Rps K Φ' ws ys ∧ Step (T ++ (U ++ F)) G H Φ A F G H Φ' A ∧ Stands K S σ H Φ' A F G := by
  have ndU : (U ++ (F ++ G)).Nodup := (List.nodup_append.mp nd).2.1
  have ndT : (T ++ (F ++ G)).Nodup := nd.sublist ((List.Sublist.refl T).append (List.sublist_append_right U _))
  obtain ⟨Φ1, b, ws, rfl, s1, r1, sp1, st1⟩ := its_ok st hy ndU e2
  have hx1 : RV K Φ1 H A S σ x ra T := RV.step' st hx (by simpa [List.append_assoc] using nd) sp1 .refl
  obtain ⟨Φ2, a, vs, rfl, s2, r2, sp2, st2⟩ := its_ok st1 hx1 ndT e1
  refine ⟨Φ2, a, b, vs, ws, rfl, rfl, s2, s1, r2, r1.mono sp2.le, ⟨fun _ _ e _ => e, sp1.le.trans sp2.le, fun c o e => ?_, fun c hc => .inl (by simp [hc]), fun _ h => .inl h, fun _ h => h, Pfx.refl⟩, st2⟩
  rcases sp2.grow c o e with h | h | h | h
  · rcases sp1.grow c o h with h | h | h | h
    · exact .inl h
    · exact .inr (.inl (by simp only [List.mem_append] at h ⊢; grind))
    · exact .inr (.inr (.inl h))
    · exact .inr (.inr (.inr h))
  · exact .inr (.inl (by simp only [List.mem_append] at h ⊢; grind))
  · exact .inr (.inr (.inl h))
  · exact .inr (.inr (.inr h))
theorem rss_dat {K : PySem.W.Frag} {Φ H : Hp} {A : List Addr} : ∀ {vs : List V} {ds : List D}, Rps K Φ vs ds → RSs K Φ H A vs (ds.map SV.dat) []
  | _, _, .nil => .nil
  | _, _, .cons q r => .cons (F := []) (.dat q) (rss_dat r)
/-- the end of an operator that makes a list of frozen items -/
theorem end_list {K : PySem.W.Frag} {S : Sto} {σ : Sl} {H Φ Φ' : Hp} {A F F0 G : List Addr} {Q : VK} {vs : List V} {ds : List D} {p : Addr}
    (q : ∀ v H' Φ' A' V F' G', Step F0 G H Φ A (V ++ F') G' H' Φ' A' → Stands K S σ H' Φ' A' F' G' → RV K Φ' H' A' S σ v (.val (.own (ds.map SV.dat))) V → (V ++ (F' ++ G')).Nodup → Frz S S → Q v H')
    (sp : Step F0 G H Φ A F G H Φ' A) (st : Stands K S σ H Φ' A F G) (r : Rps K Φ' vs ds) (hp : H p = none) : Q (.ref p) (upd H p (.lst vs)) := by
  obtain ⟨n1, n2, n3, n4⟩ := new_list st (rss_dat (H := H) (A := A) r) (by simpa using st.nd) hp
  exact q (.ref p) _ _ _ [p] F G (sp.trans0 n1) n2 n3 n4 .refl
theorem end_tup {K : PySem.W.Frag} {S : Sto} {σ : Sl} {H Φ Φ' : Hp} {A F F0 G : List Addr} {Q : VK} {vs : List V} {ds : List D} {p : Addr}
    (q : ∀ v H' Φ' A' V F' G', Step F0 G H Φ A (V ++ F') G' H' Φ' A' → Stands K S σ H' Φ' A' F' G' → RV K Φ' H' A' S σ v (.d (.tup ds)) V → (V ++ (F' ++ G')).Nodup → Frz S S → Q v H')
    (sp : Step F0 G H Φ A F G H Φ' A) (st : Stands K S σ H Φ' A F G) (r : Rps K Φ' vs ds) (hp : H p = none) : Q (.ref p) (upd H p (.tup vs)) := by
  obtain ⟨n1, n2, n3⟩ := new_frz (o := .tup vs) st hp
  exact q (.ref p) _ _ _ [] F G (sp.trans0 n1) n2 (RS.dat (.tup (SqT.of upd_same) (r.mono n3))) (by simpa using n2.nd) .refl
def rCatR (K : PySem.W.Frag) : R2 := fun x y H Q => ∃ l b xs zs, x = .ref l ∧ y = .ref b ∧ SqL K H l xs ∧ SqL K H b zs ∧ xs.length + zs.length ≤ sizeLine ∧ ∀ p, H p = none → Q (.ref p) (upd H p (.lst (xs ++ zs)))
theorem op_catR {X : Cx} : OpR X (binaryOp .Add) (rCatR X.K) := by
  rintro pins s σ H x y v u Q I rx ry ⟨l, b, xs, zs, rfl, rfl, hl, hb, hz, q⟩
  cases rx
  cases ry
  obtain ⟨its, r1, pl1, _⟩ := I.list hl
  obtain ⟨its2, r2, pl2, _⟩ := I.list hb
  have l1 := r1.length
  have l2 := r2.length
  obtain ⟨⟨cls, dd, data, sl⟩, ho, hc, m, hd⟩ := id pl1.isList
  obtain ⟨⟨cls2, dd2, data2, sl2⟩, ho2, hc2, m2, hd2⟩ := id pl2.isList
  simp only at hc hd hc2 hd2
  subst hc hd hc2 hd2
  have e : its.toArray ++ its2.toArray = (its ++ its2).toArray := by simp
  refine concat_meets ⟨_, ho, rfl⟩ ⟨_, ho2, rfl⟩ noFill_list_add seq_list_add PySem.F.slot_list_add PySem.F.entry_list_add (PySem.F.args_list_add_2 _ _) (list_addW l b its.toArray its2.toArray m m2 dd dd2 sl sl2 (by simp only [List.size_toArray]; omega)) ⟨ho, ho2, ?_⟩
  rw [e]
  exact ⟨.ref _, _, I.lnew (t' := s.toks) (r1.append r2) (by rw [List.length_append]; omega), rfl, q _ I.fresh⟩
def gCat : G2 := fun ra rb S => match ra.its S, rb.its S with
  | some (false, xs), some (false, ys) => if xs.length + ys.length ≤ 1000000 then some (.val (.own ((xs ++ ys).map SV.dat)), S) else none
  | _, _ => none
theorem k1000000 {n : Nat} (h : n ≤ 1000000) : n ≤ sizeLine := Nat.le_trans h (by rw [sizeLine_eq]; decide)
theorem og_cat {K : PySem.W.Frag} : OpG K (rCatR K) gCat := by
  intro S σ H Φ A F G x y ra rb T U st rx ry nd rz S' e Q q
  unfold gCat at e
  cases e1 : ra.its S with
  | none => rw [e1] at e; cases e
  | some z1 =>
    obtain ⟨t1, xs⟩ := z1
    cases e2 : rb.its S with
    | none => rw [e1, e2] at e; cases t1 <;> cases e
    | some z2 =>
      obtain ⟨t2, ys⟩ := z2
      rw [e1, e2] at e
      cases t1 <;> cases t2 <;> try cases e
      dsimp only at e
      split at e
      · rename_i hl
        cases e
        obtain ⟨Φ', a, b, vs, ws, rfl, rfl, s1, s2, r1, r2, sp, st'⟩ := its2_ok st rx ry nd e1 e2
        have s1 : SqL K H a vs := s1
        have s2 : SqL K H b ws := s2
        refine ⟨a, b, vs, ws, rfl, rfl, s1, s2, by rw [r1.length, r2.length]; exact k1000000 hl, fun p hp => ?_⟩
        exact end_list q sp st' (r1.append r2) hp
      · cases e
def gCatT : G2 := fun ra rb S => match ra.its S, rb.its S with
  | some (true, xs), some (true, ys) => if xs.length + ys.length ≤ 1000000 then some (.d (.tup (xs ++ ys)), S) else none
  | _, _ => none
theorem its_tup {S : Sto} {r : R} {ds : List D} (e : r.its S = some (true, ds)) : r.sv S = some (.dat (.tup ds)) := by
  unfold R.its at e
  cases ex : r.sv S with
  | none => rw [ex] at e; cases e
  | some x =>
    rw [ex] at e
    cases x with
    | cell k => cases e
    | dat d => cases d <;> cases e; rfl
    | node n xs =>
      cases n <;> try cases e
      cases r with
      | val y =>
        have e : (peeks xs).map (fun ds => (false, ds)) = some (true, ds) := e
        cases e2 : peeks xs <;> rw [e2] at e <;> cases e
      | bor i p =>
        have e : (dats xs).map (fun ds => (false, ds)) = some (true, ds) := e
        cases e2 : dats xs <;> rw [e2] at e <;> cases e
theorem og_catT {K : PySem.W.Frag} : OpG K (rCatA K) gCatT := by
  intro S σ H Φ A F G x y ra rb T U st rx ry nd rz S' e Q q
  unfold gCatT at e
  cases e1 : ra.its S with
  | none => rw [e1] at e; cases e
  | some z1 =>
    obtain ⟨t1, xs⟩ := z1
    cases e2 : rb.its S with
    | none => rw [e1, e2] at e; cases t1 <;> cases e
    | some z2 =>
      obtain ⟨t2, ys⟩ := z2
      rw [e1, e2] at e
      cases t1 <;> cases t2 <;> try cases e
      dsimp only at e
      split at e
      · rename_i hl
        cases e
        have d1 := rx.dat st (its_tup e1)
        have d2 := ry.dat st (its_tup e2)
        have stay : Step (T ++ (U ++ F)) G H Φ A ([] ++ F) G H Φ A := ⟨fun _ _ e _ => e, fun _ _ e => e, fun _ _ e => .inl e, fun b hb => .inl (by simp only [List.nil_append] at hb; simp [hb]), fun _ h => .inl h, fun _ h => h, Pfx.refl⟩
        cases d1 with
        | tup s1 r1 =>
          rename_i a vs
          cases d2 with
          | tup s2 r2 =>
            rename_i b ws
            refine ⟨a, b, vs, ws, rfl, rfl, sqT_mono st.le s1, sqT_mono st.le s2, by rw [r1.length, r2.length]; exact k1000000 hl, fun hv => ?_, fun hv hw => ?_, fun hv hw p hp => ?_⟩
            · subst hv; cases r1
              exact q _ H Φ A [] F G stay st (RS.dat (.tup s2 r2)) (by simpa using st.nd) .refl
            · subst hw; cases r2
              refine q _ H Φ A [] F G stay st (RS.dat ?_) (by simpa using st.nd) .refl
              rw [List.append_nil]; exact .tup s1 r1
            · exact end_tup q stay st (r1.append r2) hp
      · cases e
def sAdd : D → D → Option D
  | .str x, .str y => if x.length + y.length ≤ 1000000 then some (.str (x ++ y)) else none
  | _, _ => none
theorem sAdd_some {dx dy z : D} (e : sAdd dx dy = some z) : ∃ x y, dx = .str x ∧ dy = .str y ∧ x.length + y.length ≤ 1000000 ∧ z = .str (x ++ y) := by
  unfold sAdd at e
  split at e
  · split at e
    · cases e; exact ⟨_, _, rfl, rfl, by assumption, rfl⟩
    · cases e
  · cases e
theorem og_addS {K : PySem.W.Frag} : OpG K (fun x y H Q => ∃ i j, x = .str i ∧ y = .str j ∧ i.length + j.length ≤ sizeLine ∧ Q (.str (i ++ j)) H) (g2 sAdd) := opG_scal fun H x y dx dy z rx ry e Q q => by
  obtain ⟨i, j, rfl, rfl, hl, rfl⟩ := sAdd_some e
  cases rx
  cases ry
  exact ⟨_, _, rfl, rfl, k1000000 hl, q _ fun H' => .str _⟩
theorem og_addI {K : PySem.W.Frag} : OpG K (rI0 fun i j => .int (i + j)) (g2 (dI iAdd)) := opG_int0 fun i j z e H => by cases e; exact .int _
def gAdd : G2 := fun ra rb S => (g2 (dI iAdd) ra rb S).orElse fun _ => (g2 sAdd ra rb S).orElse fun _ => (gCat ra rb S).orElse fun _ => gCatT ra rb S
def rAddP (K : PySem.W.Frag) : R2 := fun x y H Q => rI0 (fun i j => .int (i + j)) x y H Q ∨ ((∃ i j, x = .str i ∧ y = .str j ∧ i.length + j.length ≤ sizeLine ∧ Q (.str (i ++ j)) H) ∨ (rCatR K x y H Q ∨ rCatA K x y H Q))
theorem op_addP {X : Cx} : OpR X (binaryOp .Add) (rAddP X.K) := op_add.or (op_add_str.or (op_catR.or op_catA))
theorem og_addP {K : PySem.W.Frag} : OpG K (rAddP K) gAdd := og_addI.or (og_addS.or (og_cat.or og_catT))
section
variable {X : Cx} {W : WX} {a b c : Expr} {pos : Pos} {ta tb tc : TE} {fa fb fc : FE}
theorem de_add (ha : DE X W a ta fa) (hb : DE X W b tb fb) : DE X W (.BinOp a .Add b pos) (tOp (rAddP X.K) ta tb) (fBin gAdd fa fb) := de_bin op_addP og_addP ha hb
theorem de_sub (ha : DE X W a ta fa) (hb : DE X W b tb fb) : DE X W (.BinOp a .Sub b pos) (tOp (rI0 fun i j => .int (i - j)) ta tb) (fBin (g2 (dI iSub)) fa fb) := de_bin op_sub og_sub ha hb
theorem de_fdiv (ha : DE X W a ta fa) (hb : DE X W b tb fb) : DE X W (.BinOp a .FloorDiv b pos) (tOp (rI CDiv fun i j => .int (i / j)) ta tb) (fBin (g2 (dI iDiv)) fa fb) := de_bin op_fdiv og_div ha hb
theorem de_mod (ha : DE X W a ta fa) (hb : DE X W b tb fb) : DE X W (.BinOp a .Mod b pos) (tOp (rI (fun _ j => 0 < j) fun i j => .int (i % j)) ta tb) (fBin (g2 (dI iMod)) fa fb) := de_bin op_mod og_mod ha hb
theorem de_pow (ha : DE X W a ta fa) (hb : DE X W b tb fb) : DE X W (.BinOp a .Pow b pos) (tOp (rI CPow fun i j => .int (i ^ j.toNat)) ta tb) (fBin (g2 (dI iPow)) fa fb) := de_bin op_pow og_pow ha hb
end
/-! ### * -/
theorem og_mulI {K : PySem.W.Frag} : OpG K (rI CMul fun i j => .int (i * j)) (g2 (dI iMul)) := opG_int fun i j z e => by
  unfold iMul at e; split at e
  · cases e; exact ⟨by assumption, fun H => .int _⟩
  · cases e
/-- a list so many times -/
def gRep : G2 := fun ra rb S => match ra.its S, rb.peek S with
  | some (false, xs), some (.int k) => if 0 ≤ k ∧ k ≤ 1000000 ∧ xs.length * k.toNat ≤ 1000000 then some (.val (.own ((List.replicate k.toNat xs).flatten.map SV.dat)), S) else none
  | _, _ => none
def rRepR : R2 := fun x y H Q => ∃ l k xs, x = .ref l ∧ y = .int k ∧ H l = some (.lst xs) ∧ -(2 ^ 63) ≤ k ∧ k < 2 ^ 63 ∧ xs.length * k.toNat ≤ sizeLine ∧ ∀ p, H p = none → Q (.ref p) (upd H p (.lst (List.replicate k.toNat xs).flatten))
theorem rps_rep {K : PySem.W.Frag} {H : Hp} {vs : List V} {ds : List D} (h : Rps K H vs ds) : ∀ k : Nat, Rps K H (List.replicate k vs).flatten (List.replicate k ds).flatten
  | 0 => .nil
  | k + 1 => by
    rw [List.replicate_succ, List.replicate_succ, List.flatten_cons, List.flatten_cons]
    exact h.append (rps_rep h k)
/-- a text so many times; a tuple so many times -/
def sMul : D → D → Option D
  | .str x, .int k => if 0 ≤ k ∧ k ≤ 1000000 ∧ x.length * k.toNat ≤ 1000000 then some (.str ⟨(List.replicate k.toNat x.cps.toList).flatten.toArray⟩) else none
  | _, _ => none

/-! ### the order -/
def strLt (x y : Str) : Bool := decide (x.cps.toList < y.cps.toList)
end L3

namespace L3
open PySem PySem.Spec PyProof.Rows L2

/-! ### dicts asked: by text, int or tuple keys -/
def D.key : D → Option Key
  | .int i => some (.inl i)
  | .str x => some (.inr x)
  | _ => none
def keysD : List D → Option (List Key)
  | [] => some []
  | d :: ds => (d.key).bind fun k => (keysD ds).map fun ks => k :: ks
def look {κ : Type} [DecidableEq κ] (k : κ) : List κ → List SV → Option SV
  | j :: ks, x :: xs => if j = k then some x else look k ks xs
  | _, _ => none
/-- what a dict has at a key: none of no dict, or of no key of its kind; some none where it has nothing -/
def nget (n : Nd) (xs : List SV) (k : D) : Option (Option SV) := match n with
  | .dK ks => (k.key).map fun k => look k ks xs
  | .dT ks => match k with
    | .tup ds => (keysD ds).map fun k => look k ks xs
    | _ => none
  | _ => none
def SV.dget (S : Sto) (x : SV) (k : D) : Option (Option SV) := match x with
  | .cell c => match S.μ[c]? with
    | some (.node n xs) => nget n xs k
    | _ => none
  | .node n xs => nget n xs k
  | .dat (.dK ks ds) => nget (.dK ks) (ds.map SV.dat) k
  | .dat (.dT ks ds) => nget (.dT ks) (ds.map SV.dat) k
  | _ => none
section
variable {K : PySem.W.Frag} {S : Sto} {σ : Sl} {H Φ : Hp} {A F G T : List Addr} {v : V} {r : R}
theorem key_rp {H : Hp} {v : V} {d : D} {k : Key} (h : Rp K H v d) (e : d.key = some k) : v = kV k := by
  cases h <;> cases e <;> rfl
theorem keys_rps {H : Hp} : ∀ {vs : List V} {ds : List D} {ks : List Key}, Rps K H vs ds → keysD ds = some ks → vs = ks.map kV
  | _, _, _, .nil, e => by rw [keysD] at e; cases e; rfl
  | _, _, ks, .cons (d := d) (ds := ds) q r, e => by
    rw [keysD] at e
    cases e1 : d.key with
    | none => rw [e1] at e; cases e
    | some k =>
      cases e2 : keysD ds with
      | none => rw [e1, e2] at e; cases e
      | some js => rw [e1, e2] at e; cases e; rw [key_rp q e1, keys_rps r e2]; rfl
theorem look_val {κ : Type} [DecidableEq κ] {A : List Addr} (k : κ) :
    ∀ {ks : List κ} {vs : List V} {xs : List SV} {U : List Addr}, ks.length = vs.length → RSs K Φ H A vs xs U → (look k ks xs = none → valV (ks.zip vs) k = none) ∧ ∀ x, look k ks xs = some x → ∃ v U', valV (ks.zip vs) k = some v ∧ RS K Φ H A v x U' ∧ (∀ b ∈ U', b ∈ U)
  | [], [], _, _, _, .nil => ⟨fun _ => rfl, fun x h => by rw [look] at h; cases h; intros; contradiction⟩
  | j :: ks, v :: vs, _, _, hk, .cons (x := x0) (xs := xs) (F := F0) (G := G0) q r => by
    have ih := look_val k (ks := ks) (by simpa using hk) r
    rw [look, List.zip_cons_cons]
    by_cases e : j = k
    · rw [if_pos e]
      refine ⟨fun h => (by cases h), fun x h => ?_⟩
      cases h
      exact ⟨v, F0, valV_pos e, q, fun b hb => List.mem_append_left _ hb⟩
    · rw [if_neg e, valV_neg (p := (j, v)) e]
      refine ⟨ih.1, fun x h => ?_⟩
      obtain ⟨w, U', h1, h2, h3⟩ := ih.2 x h
      exact ⟨w, U', h1, h2, fun b hb => List.mem_append_right _ (h3 b hb)⟩
  | [], _ :: _, _, _, hk, _ => by simp at hk
  | _ :: _, [], _, _, hk, _ => by simp at hk
/-- a dict's node stands at a -/
def NdAt (H : Hp) (a : Addr) (n : Nd) (vs : List V) : Prop := match n with
  | .dK ks => Rd H a (.dK (ks.zip vs))
  | .dT ks => Rd H a (.dT (ks.zip vs))
  | _ => False
theorem nget_ok {n : Nd} {vs : List V} {xs : List SV} {U0 : List Addr} {a : Addr} {y : V} {k : D} {o : Option SV} (hn : NdAt H a n vs) (hl : n.len vs.length) (rs : RSs K Φ H A vs xs U0) (hk : Rp K H y k) (hf : ∀ a ds, y = .ref a → k = .tup ds → ∃ vs, H a = some (.tup vs) ∧ Rps K H vs ds) (e : nget n xs k = some o) :
    ∃ ov, DGet H a y ov ∧ ((o = none ∧ ov = none) ∨ ∃ z w U', o = some z ∧ ov = some w ∧ RS K Φ H A w z U' ∧ (∀ b ∈ U', b ∈ U0)) := by
  cases n with
  | lst => cases e
  | ins C dx ks => cases e
  | dK ks =>
    have e : (k.key).map (fun k => look k ks xs) = some o := e
    cases ek : k.key with
    | none => rw [ek] at e; cases e
    | some j =>
      rw [ek] at e
      have e : some (look j ks xs) = some o := e
      obtain ⟨l1, l2⟩ := look_val j hl rs
      have ey := key_rp hk ek
      subst ey
      cases o with
      | none => exact ⟨none, .inl ⟨_, _, hn, rfl, (l1 (Option.some.inj e)).symm⟩, .inl ⟨rfl, rfl⟩⟩
      | some z =>
        obtain ⟨w, U', h1, h2, h3⟩ := l2 z (Option.some.inj e)
        exact ⟨some w, .inl ⟨_, _, hn, rfl, h1.symm⟩, .inr ⟨z, w, U', rfl, rfl, h2, h3⟩⟩
  | dT ks =>
    cases k with
    | tup ds =>
      have e : (keysD ds).map (fun k => look k ks xs) = some o := e
      cases ek : keysD ds with
      | none => rw [ek] at e; cases e
      | some j =>
        rw [ek] at e
        have e : some (look j ks xs) = some o := e
        obtain ⟨l1, l2⟩ := look_val j hl rs
        cases hk with
        | tup sq rr =>
          rename_i b ws
          obtain ⟨ws', et, rr'⟩ := hf b ds rfl rfl
          have ew := keys_rps rr' ek
          subst ew
          cases o with
          | none => exact ⟨none, .inr ⟨_, _, _, hn, rfl, et, (l1 (Option.some.inj e)).symm⟩, .inl ⟨rfl, rfl⟩⟩
          | some z =>
            obtain ⟨w, U', h1, h2, h3⟩ := l2 z (Option.some.inj e)
            exact ⟨some w, .inr ⟨_, _, _, hn, rfl, et, h1.symm⟩, .inr ⟨z, w, U', rfl, rfl, h2, h3⟩⟩
    | _ => cases e
/-- what DGet wants, for a key told as a datum -/
theorem dget_ok {x : SV} {U : List Addr} {y : V} {k : D} {o : Option SV} (st : Stands K S σ H Φ A F G) (h : RS K Φ H A v x U) (hk : Rp K H y k) (hf : ∀ a ds, y = .ref a → k = .tup ds → ∃ vs, H a = some (.tup vs) ∧ Rps K H vs ds) (e : x.dget S k = some o) :
    ∃ a ov, v = .ref a ∧ DGet H a y ov ∧ ((o = none ∧ ov = none) ∨ ∃ z w U', o = some z ∧ ov = some w ∧ RS K Φ H A w z U' ∧ (∀ b ∈ U', b ∈ U ∨ b ∈ G)) := by
  have fin : ∀ {a : Addr} {n : Nd} {vs : List V} {xs : List SV} {U0 : List Addr}, v = .ref a → NdAt H a n vs → n.len vs.length → RSs K Φ H A vs xs U0 → nget n xs k = some o → (∀ b ∈ U0, b ∈ U ∨ b ∈ G) →
      ∃ a ov, v = .ref a ∧ DGet H a y ov ∧ ((o = none ∧ ov = none) ∨ ∃ z w U', o = some z ∧ ov = some w ∧ RS K Φ H A w z U' ∧ (∀ b ∈ U', b ∈ U ∨ b ∈ G)) := fun {a n vs xs U0} hv h1 h2 h3 h4 h5 => by
    obtain ⟨ov, g, c⟩ := nget_ok h1 h2 h3 hk hf h4
    refine ⟨a, ov, hv, g, c.imp id ?_⟩
    rintro ⟨z, w, U', q1, q2, q3, q4⟩
    exact ⟨z, w, U', q1, q2, q3, fun b hb => h5 b (q4 b hb)⟩
  have nd : ∀ {a : Addr} {n : Nd} {vs : List V}, H a = some (n.ho vs) → (∀ xs, nget n xs k ≠ none → NdAt H a n vs) := fun {a n vs} ea xs hn => by
    cases n with
    | lst => exact absurd rfl hn
    | ins C dx ks => exact absurd rfl hn
    | dK ks => exact .inl ea
    | dT ks => exact .inl ea
  cases x with
  | dat d =>
    cases h with
    | dat q =>
      cases d <;> try cases e
      · cases q with
        | dK rd hl rr => exact fin (n := .dK _) rfl (Rd.mono st.le rd) hl (rss_dat rr) e (fun b hb => by simp at hb)
      · cases q with
        | dT rd hl rr => exact fin (n := .dT _) rfl (Rd.mono st.le rd) hl (rss_dat rr) e (fun b hb => by simp at hb)
  | node n xs =>
    cases h with
    | node ea f pa q =>
      have e : nget n xs k = some o := e
      exact fin rfl (nd ea xs (by rw [e]; simp)) f.1 q e (fun b hb => .inl (List.mem_cons_of_mem _ hb))
  | cell c =>
    cases h with
    | cell hc =>
      unfold SV.dget at e
      dsimp only at e
      cases em : S.μ[c]? with
      | none => rw [em] at e; cases e
      | some x =>
        rw [em] at e
        obtain ⟨a, F1, Fi, F2, e1, e2, rs, _⟩ := st.rc.at em
        rw [hc] at e1; cases e1
        cases x with
        | dat d => cases e
        | cell c => cases e
        | node n xs =>
          cases rs with
          | node ea f pa q =>
            have e : nget n xs k = some o := e
            exact fin rfl (nd ea xs (by rw [e]; simp)) f.1 q e (fun b hb => .inr (by rw [e2]; simp [hb]))
end
end L3

namespace L3
open PySem PySem.Spec PyProof.Rows L2

/-! ### x[i] -/
def intOf : D → Option Int
  | .int i => some i
  | _ => none
theorem intOf_some {d : D} {i : Int} (h : intOf d = some i) : d = .int i := by
  cases d <;> cases h; rfl
/-- a result out of an owned list -/
def kidR (ra : R) (j : Nat) : SV → Option R
  | .dat d => some (.d d)
  | .cell c => some (.val (.cell c))
  | .node _ _ => match ra with
    | .bor i p => some (.bor i (p ++ [j]))
    | .val _ => none
def gIxS : G2 := fun ra rb S => (rb.peek S).bind fun k => (intOf k).bind fun i => match ra.sv S with
  | some (.dat (.lst ds)) => (atI ds i).map fun d => (.d d, S)
  | some (.dat (.tup ds)) => (atI ds i).map fun d => (.d d, S)
  | some (.dat (.str x)) => if x.length ≤ 1000000 then (atI x.cps.toList i).map fun c => (.d (.str ⟨#[c]⟩), S) else none
  | some (.node .lst xs) => (ixN xs.length i).bind fun j => (xs[j]?).bind fun x => (kidR ra j x).map fun r => (r, S)
  | _ => none
def gIxD : G2 := fun ra rb S => (rb.peek S).bind fun k => match k with
  | .tup _ => none
  | _ => match ra.sv S with
    | some x => match x.dget S k with
      | some (some (.dat d)) => some (.d d, S)
      | some (some (.cell c)) => some (.val (.cell c), S)
      | _ => none
    | none => none
section
variable {K : PySem.W.Frag} {S : Sto} {σ : Sl} {H Φ : Hp} {A F G T U : List Addr} {v x y : V} {r ra rb : R}
theorem atI_rps {H : Hp} {vs : List V} {ds : List D} {i : Int} {d : D} (h : Rps K H vs ds) (e : atI ds i = some d) : ∃ v, atI vs i = some v ∧ Rp K H v d := by
  unfold atI at e ⊢
  rw [h.length]
  cases ej : ixN ds.length i with
  | none => rw [ej] at e; cases e
  | some j =>
    rw [ej] at e
    exact h.get' e
theorem stay2 : Step (T ++ (U ++ F)) G H Φ A ([] ++ F) G H Φ A := ⟨fun _ _ e _ => e, fun _ _ e => e, fun _ _ e => .inl e, fun b hb => .inl (by simp only [List.nil_append] at hb; simp [hb]), fun _ h => .inl h, fun _ h => h, Pfx.refl⟩
theorem At.snoc {H : Hp} {v0 : V} {p : List Nat} {a : Addr} {n : Nd} {vs : List V} {k : Nat} {u : V} (h : At H v0 p (.ref a)) (e : H a = some (n.ho vs)) (f : n.fits vs.length) (g : vs[k]? = some u) : At H v0 (p ++ [k]) u := by
  generalize hw : (V.ref a) = w at h
  induction h with
  | nil => subst hw; exact .cons e f g .nil
  | cons e1 f1 g1 _ ih => exact .cons e1 f1 g1 (ih hw)
theorem sub_snoc {x0 : SV} : ∀ {p : List Nat} {n : Nd} {xs : List SV} {k : Nat} {y : SV}, x0.sub (p ++ [k]) = some y → x0.sub p = some (.node n xs) → xs[k]? = some y := by
  intro p
  induction p generalizing x0 with
  | nil =>
    intro n xs k y h e
    have e : some x0 = some (.node n xs) := by rw [← e]; cases x0 <;> rfl
    cases e
    have h : (match xs[k]? with | some y => y.sub [] | none => none) = some y := h
    cases ek : xs[k]? with
    | none => rw [ek] at h; cases h
    | some z => rw [ek] at h; rw [← h]; cases z <;> rfl
  | cons j p ih =>
    intro n xs k y h e
    cases x0 with
    | dat d => cases e
    | cell c => cases e
    | node m zs =>
      have h : (match zs[j]? with | some y => y.sub (p ++ [k]) | none => none) = some y := h
      have e : (match zs[j]? with | some y => y.sub p | none => none) = some (.node n xs) := e
      cases ek : zs[j]? with
      | none => rw [ek] at h; cases h
      | some z => rw [ek] at h e; exact ih h e
theorem og_ixS : OpG K (rIx K) gIxS := by
  intro S σ H Φ A F G x y ra rb T U st rx ry nd rz S' e Q q
  unfold gIxS at e
  cases ek : rb.peek S with
  | none => rw [ek] at e; cases e
  | some k =>
    rw [ek] at e
    have e : (intOf k).bind _ = some (rz, S') := e
    cases ei : intOf k with
    | none => rw [ei] at e; cases e
    | some i =>
      rw [ei] at e
      cases intOf_some ei
      have hy : y = .int i := by cases ry.rp st ek; rfl
      subst hy
      cases ex : ra.sv S with
      | none => rw [ex] at e; cases e
      | some a =>
        rw [ex] at e
        obtain ⟨Ua, qa, hUa⟩ := rx.rs st ex
        cases a with
        | cell c => cases e
        | dat d =>
          cases qa with
          | dat qa =>
            cases d <;> try cases e
            · -- a text
              rename_i z
              have e : (if z.length ≤ 1000000 then (atI z.cps.toList i).map fun c => (R.d (.str ⟨#[c]⟩), S) else none) = some (rz, S') := e
              by_cases hl : z.length ≤ 1000000
              · rw [if_pos hl] at e
                cases ec : atI z.cps.toList i with
                | none => rw [ec] at e; cases e
                | some c =>
                  rw [ec] at e; cases e
                  cases qa
                  exact .inr (.inr ⟨z, i, c, rfl, rfl, k1000000 hl, ec, q _ H Φ A [] F G stay2 st (RS.dat (.str _)) (by simpa using st.nd) .refl⟩)
              · rw [if_neg hl] at e; cases e
            · rename_i ds
              have e : (atI ds i).map (fun d => (R.d d, S)) = some (rz, S') := e
              cases ed : atI ds i with
              | none => rw [ed] at e; cases e
              | some d =>
                rw [ed] at e; cases e
                cases qa with
                | lst rd rr =>
                  obtain ⟨u, eu, ru⟩ := atI_rps rr ed
                  exact .inl ⟨_, _, i, u, rfl, rfl, sqL_mono st.le rd, eu, q _ H Φ A [] F G stay2 st (RS.dat ru) (by simpa using st.nd) .refl⟩
            · rename_i ds
              have e : (atI ds i).map (fun d => (R.d d, S)) = some (rz, S') := e
              cases ed : atI ds i with
              | none => rw [ed] at e; cases e
              | some d =>
                rw [ed] at e; cases e
                cases qa with
                | tup rd rr =>
                  obtain ⟨u, eu, ru⟩ := atI_rps rr ed
                  exact .inr (.inl ⟨_, _, i, u, rfl, rfl, sqT_mono st.le rd, eu, q _ H Φ A [] F G stay2 st (RS.dat ru) (by simpa using st.nd) .refl⟩)
        | node n xs =>
          cases n <;> try cases e
          have e : (ixN xs.length i).bind (fun j => (xs[j]?).bind fun x => (kidR ra j x).map fun r => (r, S)) = some (rz, S') := e
          cases ej : ixN xs.length i with
          | none => rw [ej] at e; cases e
          | some j =>
            rw [ej] at e
            have e : (xs[j]?).bind (fun x => (kidR ra j x).map fun r => (r, S)) = some (rz, S') := e
            cases exj : xs[j]? with
            | none => rw [exj] at e; cases e
            | some xj =>
              rw [exj] at e
              have e : (kidR ra j xj).map (fun r => (r, S)) = some (rz, S') := e
              cases qa with
              | node ea f pa qs =>
                rename_i a vs Fs
                obtain ⟨u, E1, Ei, E2, gu, eE, qu, _⟩ := RSs.at qs exj
                have eu : atI vs i = some u := by
                  unfold atI
                  rw [qs.length, ej]
                  exact gu
                refine .inl ⟨_, _, i, u, rfl, rfl, .inl (.inl ea), eu, ?_⟩
                cases xj with
                | dat d =>
                  cases e
                  cases qu with
                  | dat qu => exact q _ H Φ A [] F G stay2 st (RS.dat qu) (by simpa using st.nd) .refl
                | cell c =>
                  cases e
                  cases qu with
                  | cell qu => exact q _ H Φ A [] F G stay2 st (RS.cell qu) (by simpa using st.nd) .refl
                | node m ys =>
                  cases ra with
                  | val z => cases e
                  | bor i0 p =>
                    cases e
                    obtain ⟨rfl, v0, e0, hp, hat⟩ := rx
                    have hat0 := hat _ (show S.sub i0 p = some (.node .lst xs) from ex)
                    refine q _ H Φ A [] F G stay2 st ⟨rfl, v0, e0, fun z => by simp at z, fun z hz => ?_⟩ (by simpa using st.nd) .refl
                    exact hat0.snoc ea f gu
theorem dget_key {k : D} (h : ∀ ds, k ≠ .tup ds) : ∀ (a : Addr) (ds : List D), y = .ref a → k = .tup ds → ∃ vs, H a = some (.tup vs) ∧ Rps K H vs ds := fun _ ds _ e => absurd e (h ds)
def rIxDict : R2 := fun x y H Q => ∃ a v, x = .ref a ∧ DGet H a y (some v) ∧ Q v H
theorem og_ixD : OpG K rIxDict gIxD := by
  intro S σ H Φ A F G x y ra rb T U st rx ry nd rz S' e Q q
  unfold gIxD at e
  cases ek : rb.peek S with
  | none => rw [ek] at e; cases e
  | some k =>
    rw [ek] at e
    have hk : ∀ ds, k ≠ .tup ds := fun ds h => by subst h; cases e
    have e : (match ra.sv S with
      | some x => match x.dget S k with
        | some (some (.dat d)) => some (R.d d, S)
        | some (some (.cell c)) => some (.val (.cell c), S)
        | _ => none
      | none => none) = some (rz, S') := by
      cases k <;> first | exact e | exact absurd rfl (hk _)
    cases ex : ra.sv S with
    | none => rw [ex] at e; cases e
    | some a =>
      rw [ex] at e
      dsimp only at e
      obtain ⟨Ua, qa, hUa⟩ := rx.rs st ex
      cases eg : a.dget S k with
      | none => rw [eg] at e; cases e
      | some o =>
        rw [eg] at e
        obtain ⟨p, ov, hv, dg, cs⟩ := dget_ok st qa (ry.rp st ek) (dget_key hk) eg
        rcases cs with ⟨rfl, rfl⟩ | ⟨z, w, U', rfl, rfl, rz', hU'⟩
        · cases e
        · refine ⟨p, w, hv, dg, ?_⟩
          cases z with
          | dat d =>
            cases e
            cases rz' with
            | dat rz' => exact q _ H Φ A [] F G stay2 st (RS.dat rz') (by simpa using st.nd) .refl
          | cell c =>
            cases e
            cases rz' with
            | cell rz' => exact q _ H Φ A [] F G stay2 st (RS.cell rz') (by simpa using st.nd) .refl
          | node m ys => cases e
end
theorem ix_dict {X : Cx} (hu : X.A.units + 1 < cLine) : IxR X rIxDict := by
  rintro value slice pins s σ H x y v u Q I rx ry ⟨a, w, rfl, g, q⟩ hs
  cases rx
  exact tail_any (dict_typeIs I g) PySem.F.slot_dict_getitem.lookup (d_getItem hu I g ry fun w' s3 I3 rw' => ⟨w, H, I3, rw', q⟩) hs
def rIxP (K : PySem.W.Frag) : R2 := fun x y H Q => rIx K x y H Q ∨ rIxDict x y H Q
def gIx : G2 := fun ra rb S => (gIxS ra rb S).orElse fun _ => gIxD ra rb S
section
variable {X : Cx} {W : WX} {a b c e : Expr} {pos : Pos} {ta tb tc te : TE} {fa fb fc fe : FE}
theorem de_ix (hu : X.A.units + 1 < cLine) (ha : DE X W a ta fa) (hb : DE X W b tb fb) (hs : PlainIx b := by intro _ _; rfl) : DE X W (.Subscript a b pos) (tOp (rIxP X.K) ta tb) (fBin gIx fa fb) :=
  ⟨pe_ix (ix_seq.or (ix_dict hu)) ha.pe hb.pe hs, ev_bin (og_ixS.or og_ixD) ha.ev hb.ev⟩
end

/-! ### x[a:b] -/
/-- the end of a slice: left out, or an int -/
inductive DO (X : Cx) (W : WX) : Option Expr → TO → Option FE → Prop where
  | non : DO X W none tNoPart none
  | som {e : Expr} {te : TE} {fe : FE} (h : DE X W e te fe) : DO X W (some e) (tPart te) (some fe)
def fPart : Option FE → Sto → Option (Out (Option Int))
  | none => fun S => some (.ok none S)
  | some fe => bindE fe fun r S => ((r.peek S).bind intOf).map fun i => .ok (some i) S
def cutD {α : Type} (xs : List α) (lo hi : Option Int) : List α := (xs.drop (HT.sIx xs.length 0 lo)).take (HT.sIx xs.length xs.length hi - HT.sIx xs.length 0 lo)
theorem cut_rps {K : PySem.W.Frag} {H : Hp} {vs : List V} {ds : List D} (h : Rps K H vs ds) (lo hi : Option Int) : Rps K H (cutV vs lo hi) (cutD ds lo hi) := by
  unfold cutV cutD
  rw [h.length]
  exact (h.drop _).take _
/-- the part of a list (a new one), a tuple, a text -/
def gSl (ra : R) (lo hi : Option Int) (S : Sto) : Option (R × Sto) := match ra.its S with
  | some (false, ds) => some (.val (.own ((cutD ds lo hi).map SV.dat)), S)
  | some (true, ds) => some (.d (.tup (cutD ds lo hi)), S)
  | none => match ra.sv S with
    | some (.dat (.str x)) => if x.length ≤ 1000000 then some (.d (.str (L2.cutS x lo hi)), S) else none
    | _ => none
def fSl (fa : FE) (lo hi : Option FE) : FE := bindE fa fun ra => bindE (fPart lo) fun l => bindE (fPart hi) fun h S => (gSl ra l h S).map fun z => .ok z.1 z.2
end L3

namespace L3
open PySem PySem.Spec PyProof.Rows L2

/-! ### slices -/
section
variable {X : Cx} {W : WX} {a : Expr} {lo hi : Option Expr} {pos p2 : Pos} {ta : TE} {fa : FE} {tl th : TO} {fl fh : Option FE}
def OEV (K : PySem.W.Frag) (W : WX) (t : TO) (f : Sto → Option (Out (Option Int))) : Prop := ∀ S σ H Φ A F G, Stands K S σ H Φ A F G → ∀ out, f S = some out → ∀ Q : Option Int → Hp → Prop,
  (match out with
    | .ok o S' => ∀ H' Φ' A' F' G', Step F G H Φ A F' G' H' Φ' A' → Stands K S' σ H' Φ' A' F' G' → Frz S S' → Q o H'
    | .exc e S' => XP K W S σ H Φ A F G e S') → t σ H Q
theorem ev_part {K : PySem.W.Frag} {te : TE} {fe : FE} (h : EV K W te fe) : OEV K W (tPart te) (fPart (some fe)) := fun S σ H Φ A F G st out ho Q q => by
  refine run1 (t := te) h st ho (fun e S' eo => by subst eo; exact q) fun r S1 v H1 Φ1 A1 T F1 G1 sp st1 rv nd fz h1 => ?_
  cases ep : r.peek S1 with
  | none => rw [ep] at h1; cases h1
  | some d =>
    rw [ep] at h1
    have h1 : (intOf d).map (fun i => Out.ok (some i) S1) = some out := h1
    cases ei : intOf d with
    | none => rw [ei] at h1; cases h1
    | some i =>
      rw [ei] at h1; cases h1
      cases intOf_some ei
      have hv : v = .int i := by cases rv.rp st1 ep; rfl
      exact ⟨i, hv, q H1 Φ1 A1 F1 G1 sp.drop st1 fz⟩
theorem DO.pe {e : Option Expr} {t : TO} {f : Option FE} (h : DO X W e t f) : PO X e t := by
  cases h with
  | non => exact po_none
  | som h => exact po_some h.pe
theorem DO.ev {e : Option Expr} {t : TO} {f : Option FE} (h : DO X W e t f) : OEV X.K W t (fPart f) := by
  cases h with
  | non => exact fun S σ H Φ A F G st out ho Q q => by cases ho; exact q H Φ A F G .refl st .refl
  | som h => exact ev_part h.ev
def rSlP (K : PySem.W.Frag) : V → Option Int → Option Int → Hp → VK → Prop := fun x lo hi H Q => rSlL K x lo hi H Q ∨ (rSlA K x lo hi H Q ∨ ∃ z, x = .str z ∧ z.length ≤ sizeLine ∧ Q (.str (L2.cutS z lo hi)) H)
theorem slR_P : SlR X (rSlP X.K) := sl_list.or (sl_tupA.or fun pins s σ H x v vl vu lo hi sl Q I rx hs pl pu ⟨z, hx, hz, q⟩ => sl_str pins s σ H x v vl vu lo hi sl Q I rx hs pl pu ⟨z, hx, hz, q⟩)
theorem sIx_bd (n d : Nat) (hd : d ≤ n) (o : Option Int) : HT.sIx n d o ≤ n := HT.sIx_le n d hd o
theorem cut_all {α : Type} {ds : List α} {lo hi : Option Int} (h : HT.sIx ds.length 0 lo = 0 ∧ HT.sIx ds.length ds.length hi = ds.length) : cutD ds lo hi = ds := by
  unfold cutD
  rw [h.1, h.2, List.drop_zero, Nat.sub_zero, List.take_length]
theorem ev_sl {K : PySem.W.Frag} (ha : EV K W ta fa) (hl : OEV K W tl (fPart fl)) (hh : OEV K W th (fPart fh)) : EV K W (tSl (rSlP K) ta tl th) (fSl fa fl fh) := fun S σ H Φ A F G st out ho Q q => by
  refine run1 (t := ta) ha st ho q.x fun ra S1 x H1 Φ1 A1 T F1 G1 sp st1 rv nd fz h1 => ?_
  -- the two ends
  unfold bindE at h1
  cases e2 : fPart fl S1 with
  | none => rw [e2] at h1; cases h1
  | some o2 =>
    rw [e2] at h1
    cases o2 with
    | exc ex S2 => cases h1; exact hl S1 σ H1 Φ1 A1 F1 G1 st1 _ e2 _ ((q.x ex S2 rfl).at sp fz)
    | ok l S2 =>
      refine hl S1 σ H1 Φ1 A1 F1 G1 st1 _ e2 _ fun H2 Φ2 A2 F2 G2 sp2 st2 fz2 => ?_
      dsimp only at h1
      have rv2 := RV.step st1 rv nd sp2 fz2
      have nd2 : (T ++ (F2 ++ G2)).Nodup := sp2.apart (fun b hb => (rv.there b hb).1) nd st2.nd
      have s02 : Step F G H Φ A (T ++ F2) G2 H2 Φ2 A2 := Step.trans (T1 := []) sp sp2
      cases e3 : fPart fh S2 with
      | none => rw [e3] at h1; cases h1
      | some o3 =>
        rw [e3] at h1
        cases o3 with
        | exc ex S3 => cases h1; exact hh S2 σ H2 Φ2 A2 F2 G2 st2 _ e3 _ ((q.x ex S3 rfl).at s02 (fz.trans fz2))
        | ok u S3 =>
          refine hh S2 σ H2 Φ2 A2 F2 G2 st2 _ e3 _ fun H3 Φ3 A3 F3 G3 sp3 st3 fz3 => ?_
          dsimp only at h1
          have rv3 := RV.step st2 rv2 nd2 sp3 fz3
          have nd3 : (T ++ (F3 ++ G3)).Nodup := sp3.apart (fun b hb => (rv2.there b hb).1) nd2 st3.nd
          have s03 : Step F G H Φ A (T ++ F3) G3 H3 Φ3 A3 := Step.trans (T1 := []) s02 sp3
          have f03 := (fz.trans fz2).trans fz3
          cases eg : gSl ra l u S3 with
          | none => rw [eg] at h1; cases h1
          | some z =>
            obtain ⟨rz, S4⟩ := z
            rw [eg] at h1; cases h1
            unfold gSl at eg
            cases ei : ra.its S3 with
            | some td =>
              obtain ⟨t, ds⟩ := td
              rw [ei] at eg
              obtain ⟨Φ4, a, vs, rfl, sq, rr, sp4, st4⟩ := its_ok st3 rv3 nd3 ei
              have s04 : Step F G H Φ A F3 G3 H3 Φ4 A3 := s03.trans0 sp4
              have fin := cut_rps rr l u
              cases t with
              | false =>
                cases eg
                refine .inl ⟨a, vs, rfl, sq, fun p hp => ?_⟩
                obtain ⟨n1, n2, n3, n4⟩ := new_list st4 (rss_dat (H := H3) (A := A3) fin) (by simpa using st4.nd) hp
                exact q (.ref p) _ _ _ [p] F3 G3 (s04.trans0 n1) n2 n3 n4 f03
              | true =>
                cases eg
                refine .inr (.inl ⟨a, vs, rfl, sq, fun hw => ?_, fun hw p hp => ?_⟩)
                · rw [rr.length] at hw
                  rw [show cutD ds l u = ds from cut_all hw] at q
                  have d1 := rv3.dat st3 (its_tup ei)
                  exact q _ H3 Φ3 A3 [] F3 G3 s03.drop st3 (RS.dat d1) (by simpa using st3.nd) f03
                · obtain ⟨n1, n2, n3⟩ := new_frz (o := .tup (cutV vs l u)) st4 hp
                  exact q (.ref p) _ _ _ [] F3 G3 (s04.trans0 n1) n2 (RS.dat (.tup (SqT.of upd_same) (fin.mono n3))) (by simpa using n2.nd) f03
            | none =>
              rw [ei] at eg
              dsimp only at eg
              cases ex : ra.sv S3 with
              | none => rw [ex] at eg; cases eg
              | some y =>
                rw [ex] at eg
                cases y with
                | node n xs => cases eg
                | cell c => cases eg
                | dat d =>
                  cases d <;> try cases eg
                  rename_i z
                  have eg : (if z.length ≤ 1000000 then some (R.d (.str (L2.cutS z l u)), S3) else none) = some (rz, S4) := eg
                  by_cases hz : z.length ≤ 1000000
                  · rw [if_pos hz] at eg; cases eg
                    have hx : x = .str z := by cases rv3.dat st3 ex; rfl
                    exact .inr (.inr ⟨z, hx, k1000000 hz, q _ H3 Φ3 A3 [] F3 G3 s03.drop st3 (RS.dat (.str _)) (by simpa using st3.nd) f03⟩)
                  · rw [if_neg hz] at eg; cases eg
theorem de_sl (ha : DE X W a ta fa) (hl : DO X W lo tl fl) (hh : DO X W hi th fh) : DE X W (.Subscript a (.Slice lo hi none p2) pos) (tSl (rSlP X.K) ta tl th) (fSl fa fl fh) := ⟨pe_slice slR_P ha.pe hl.pe hh.pe, ev_sl ha.ev hl.ev hh.ev⟩
end

/-! ### built-ins called by their names -/
abbrev GB := List R → Sto → Option (R × Sto)
def BOk (K : PySem.W.Frag) (r : List V → Hp → VK → Prop) (g : GB) : Prop := ∀ S σ H Φ A F G vs rs T, Stands K S σ H Φ A F G → RVs K Φ H A S σ vs rs T → (T ++ (F ++ G)).Nodup → ∀ rz S', g rs S = some (rz, S') →
  ∀ Q, (∀ v H' Φ' A' V F' G', Step (T ++ F) G H Φ A (V ++ F') G' H' Φ' A' → Stands K S' σ H' Φ' A' F' G' → RV K Φ' H' A' S' σ v rz V → (V ++ (F' ++ G')).Nodup → Frz S S' → Q v H') → r vs H Q
theorem BOk.or {K : PySem.W.Frag} {r r' : List V → Hp → VK → Prop} {g g' : GB} (h : BOk K r g) (h' : BOk K r' g') : BOk K (fun xs H Q => r xs H Q ∨ r' xs H Q) (fun rs S => (g rs S).orElse fun _ => g' rs S) := by
  intro S σ H Φ A F G vs rs T st rv nd rz S' e Q q
  have e : (g rs S).orElse (fun _ => g' rs S) = some (rz, S') := e
  cases e1 : g rs S with
  | some z =>
    rw [e1] at e
    have e : some z = some (rz, S') := e
    cases e
    exact .inl (h S σ H Φ A F G vs rs T st rv nd rz S' e1 Q q)
  | none =>
    rw [e1] at e
    exact .inr (h' S σ H Φ A F G vs rs T st rv nd rz S' e Q q)
def fB (g : GB) (fa : FA) : FE := bindE fa fun rs S => (g rs S).map fun z => .ok z.1 z.2
section
variable {X : Cx} {W : WX} {e : Expr} {es : List Expr} {x : Str} {p pos : Pos} {t : TA} {fa : FA} {id : String} {r : List V → Hp → VK → Prop} {g : GB}
theorem ev_B {K : PySem.W.Frag} (hb : BOk K r g) (ha : EVA K W t fa) : EV K W (tCB r t) (fB g fa) := fun S σ H Φ A F G st out ho Q q => by
  refine runA (t := t) ha st ho q.x fun rs S1 vs H1 Φ1 A1 T F1 G1 sp st1 rv nd fz h1 => ?_
  cases eg : g rs S1 with
  | none => rw [eg] at h1; cases h1
  | some z =>
    obtain ⟨rz, S2⟩ := z
    rw [eg] at h1; cases h1
    exact hb S1 σ H1 Φ1 A1 F1 G1 vs rs T st1 rv nd rz S2 eg Q fun v H' Φ' A' V F' G' s2 st2 rv2 nd2 f2 => q v H' Φ' A' V F' G' (Step.trans (T := []) (T1 := V) (F1 := T ++ F1) sp s2) st2 rv2 nd2 (fz.trans f2)
theorem de_B (hc : CallR X (.builtin id) r) (hb : BOk X.K r g) (hv : bootBuiltins x = some (.builtin id)) (hm : X.mg x = none) (ha : DA X W (e :: es) t fa) (hg : Gl X x := by rfl) (hn : x ≠ "__name__" := by decide) (hdb : (x == ("__debug__" : Str)) = false := by decide)
    (he : starEach (e :: es) X.env = (false, eval e X.env) :: starEach es X.env := by rfl) (hpl : (backTo pos (starEach es X.env)).any (·.1) = false := by rfl) : DE X W (.Call (.Name x p) (e :: es) [] pos) (tCB r t) (fB g fa) := ⟨pe_callB hc hg hm hv ha.pe hn hdb he hpl, ev_B hb ha.ev⟩
theorem de_BT {T : String} (hc : CallR X (.type T) r) (hb : BOk X.K r g) (hv : bootBuiltins x = some (.type T)) (hm : X.mg x = none) (ha : DA X W (e :: es) t fa) (hg : Gl X x := by rfl) (hn : x ≠ "__name__" := by decide) (hdb : (x == ("__debug__" : Str)) = false := by decide)
    (he : starEach (e :: es) X.env = (false, eval e X.env) :: starEach es X.env := by rfl) (hpl : (backTo pos (starEach es X.env)).any (·.1) = false := by rfl) : DE X W (.Call (.Name x p) (e :: es) [] pos) (tCB r t) (fB g fa) := ⟨pe_callTy hc hg hm hv ha.pe hn hdb he hpl, ev_B hb ha.ev⟩
end
/-- of data, no heap in sight -/
def peeksR : List R → Sto → Option (List D)
  | [], _ => some []
  | r :: rs, S => (r.peek S).bind fun d => (peeksR rs S).map fun ds => d :: ds
def gD (g : List D → Option D) : GB := fun rs S => (peeksR rs S).bind fun ds => (g ds).map fun d => (.d d, S)
theorem peeksR_ok {K : PySem.W.Frag} {S : Sto} {σ : Sl} {H Φ : Hp} {A F G : List Addr} (st : Stands K S σ H Φ A F G) : ∀ {vs : List V} {rs : List R} {T : List Addr} {ds : List D}, RVs K Φ H A S σ vs rs T → peeksR rs S = some ds → Rps K H vs ds
  | _, _, _, _, .nil, e => by rw [peeksR] at e; cases e; exact .nil
  | _, _, _, ds, .cons (r := r) (rs := rs) q qs, e => by
    rw [peeksR] at e
    cases e1 : r.peek S with
    | none => rw [e1] at e; cases e
    | some d =>
      cases e2 : peeksR rs S with
      | none => rw [e1, e2] at e; cases e
      | some es => rw [e1, e2] at e; cases e; exact .cons (q.rp st e1) (peeksR_ok st qs e2)
theorem bok_D {K : PySem.W.Frag} {r : List V → Hp → VK → Prop} {g : List D → Option D} (h : ∀ H vs ds z, Rps K H vs ds → g ds = some z → ∀ Q, (∀ v, (∀ H', Rp K H' v z) → Q v H) → r vs H Q) : BOk K r (gD g) := by
  intro S σ H Φ A F G vs rs T st rv nd rz S' e Q q
  unfold gD at e
  cases e1 : peeksR rs S with
  | none => rw [e1] at e; cases e
  | some ds =>
    rw [e1] at e
    have e : (g ds).map (fun d => (R.d d, S)) = some (rz, S') := e
    cases e2 : g ds with
    | none => rw [e2] at e; cases e
    | some z =>
      rw [e2] at e; cases e
      exact h H vs ds z (peeksR_ok st rv e1) e2 Q fun v hv => q v H Φ A [] F G ⟨fun _ _ e _ => e, fun _ _ e => e, fun _ _ e => .inl e, fun b hb => .inl (by simp only [List.nil_append] at hb; simp [hb]), fun _ h => .inl h, fun _ h => h, Pfx.refl⟩ st (RS.dat (hv _)) (by simpa using st.nd) .refl
/-! len -/
def lenD : List D → Option D
  | [.lst ds] => some (.int ds.length)
  | [.tup ds] => some (.int ds.length)
  | [.str x] => if x.length ≤ 1000000 then some (.int x.length) else none
  | _ => none
theorem bok_len {K : PySem.W.Frag} : BOk K (fun xs H Q => ∃ x n, xs = [x] ∧ LenV K x H n ∧ Q (.int n) H) (gD lenD) := bok_D fun H vs ds z rr e Q q => by
  unfold lenD at e
  split at e
  · cases e
    cases rr with
    | cons r rs =>
      cases rs
      cases r with
      | lst rd r2 => rw [← r2.length] at q; exact ⟨_, _, rfl, .inl ⟨_, rd, rfl⟩, q _ fun H' => .int _⟩
  · cases e
    cases rr with
    | cons r rs =>
      cases rs
      cases r with
      | tup rd r2 => rw [← r2.length] at q; exact ⟨_, _, rfl, .inr ⟨_, rd, rfl⟩, q _ fun H' => .int _⟩
  · split at e
    · rename_i hl
      cases e
      cases rr with
      | cons r rs =>
        cases rs
        cases r with
        | str y => exact ⟨_, _, rfl, ⟨k1000000 hl, rfl⟩, q _ fun H' => .int _⟩
    · cases e
  · cases e
/-! max, min of two ints -/
def max2D : List D → Option D
  | [.int i, .int j] => some (.int (if j > i then j else i))
  | _ => none
def min2D : List D → Option D
  | [.int i, .int j] => some (.int (if j < i then j else i))
  | _ => none
theorem bok_max2 {K : PySem.W.Frag} : BOk K (fun xs H Q => ∃ i j, xs = [.int i, .int j] ∧ Q (.int (if j > i then j else i)) H) (gD max2D) := bok_D fun H vs ds z rr e Q q => by
  unfold max2D at e
  split at e
  · cases e
    cases rr with
    | cons r rs => cases rs with
      | cons r' rs => cases rs; cases r; cases r'; exact ⟨_, _, rfl, q _ fun H' => .int _⟩
  · cases e
theorem bok_min2 {K : PySem.W.Frag} : BOk K (fun xs H Q => ∃ i j, xs = [.int i, .int j] ∧ Q (.int (if j < i then j else i)) H) (gD min2D) := bok_D fun H vs ds z rr e Q q => by
  unfold min2D at e
  split at e
  · cases e
    cases rr with
    | cons r rs => cases rs with
      | cons r' rs => cases rs; cases r; cases r'; exact ⟨_, _, rfl, q _ fun H' => .int _⟩
  · cases e
/-! sum -/
def intsD : List D → Option (List Int)
  | [] => some []
  | .int i :: r => (intsD r).map fun is => i :: is
  | _ :: _ => none
theorem intsD_eq : ∀ {ds : List D} {is : List Int}, intsD ds = some is → ds = is.map D.int
  | [], is, e => by rw [intsD] at e; cases e; rfl
  | .int i :: r, is, e => by
    rw [intsD] at e
    cases e1 : intsD r with
    | none => rw [e1] at e; cases e
    | some js => rw [e1] at e; cases e; rw [intsD_eq e1]; rfl
  | .non :: _, _, e => by cases e
  | .bl _ :: _, _, e => by cases e
  | .str _ :: _, _, e => by cases e
  | .lst _ :: _, _, e => by cases e
  | .tup _ :: _, _, e => by cases e
  | .dK _ _ :: _, _, e => by cases e
  | .dT _ _ :: _, _, e => by cases e
  | .fn _ :: _, _, e => by cases e
theorem rps_ints {K : PySem.W.Frag} {H : Hp} : ∀ {is : List Int} {vs : List V}, Rps K H vs (is.map D.int) → vs = is.map V.int
  | [], _, .nil => rfl
  | i :: is, _, .cons q r => by cases q; rw [rps_ints r]; rfl
def sumD : List D → Option D
  | [.lst ds] => (intsD ds).map fun is => .int is.sum
  | _ => none
theorem bok_sum {K : PySem.W.Frag} : BOk K (rSum K) (gD sumD) := bok_D fun H vs ds z rr e Q q => by
  unfold sumD at e
  split at e
  · rename_i es
    cases e1 : intsD es with
    | none => rw [e1] at e; cases e
    | some is =>
      rw [e1] at e; cases e
      cases rr with
      | cons r rs =>
        cases rs
        cases r with
        | lst rd r2 =>
          rw [intsD_eq e1] at r2
          exact ⟨_, is, rfl, (by rw [← rps_ints r2]; exact rd), q _ fun H' => .int _⟩
  · cases e
/-! str, repr -/
theorem showable_depth : True := trivial
def reprD : List D → Option D
  | [d] => match d.py with
    | some p => if p.showable = true ∧ p.hasDict = false ∧ p.depth ≤ 64 ∧ p.shown.length ≤ 16000000 then some (.str p.shown) else none
    | none => none
  | _ => none
def rRepr (K : PySem.W.Frag) : List V → Hp → VK → Prop := fun vs H Q => ∃ x p, vs = [x] ∧ Dp K H x p ∧ p.showable = true ∧ p.hasDict = false ∧ p.depth ≤ 64 ∧ p.shown.length ≤ sizeLine ∧ Q (.str p.shown) H
theorem cr_repr {X : Cx} (gd : X.A.guards = some []) (hu : X.A.units + 65 < cLine) : CallR X (.builtin "repr") (rRepr X.K) := by
  rintro pins s σ H xs us Q I r ⟨x, p, rfl, dp, sh, nd, dh, hz, q⟩
  obtain ⟨u, rfl, ru⟩ := vals1 r
  have fin : ∀ {y : Str} {t : Tok} {s' : Shared}, Inv X pins σ H s' → y = p.shown → EP X pins σ Q (.str y t) s' := fun {y t s'} I' e => by subst e; exact ⟨.str p.shown, H, I', ⟨t, rfl⟩, q⟩
  cases dp with
  | non => cases ru; exact PySem.P.repr_of_none (fin (I.tok _) (by simp only [PyData.shown]))
  | bl b => cases ru; exact PySem.P.repr_of_bool (fin (I.tok _) (by simp only [PyData.shown]))
  | int i =>
    obtain ⟨t, rfl⟩ := ru
    have sh' : i.natAbs.log2 < 1920 := by simpa [PyData.showable] using sh
    exact PySem.P.repr_of_int sh' (fin (I.tok _) (by simp only [PyData.shown]))
  | str z =>
    obtain ⟨t, rfl⟩ := ru
    have hz' : (reprText z).length ≤ sizeLine := by simpa only [PyData.shown] using hz
    exact PySem.P.repr_of_str (fin (I.tok _) (by simp only [PyData.shown])) hz'
  | lst sq da =>
    rename_i a ys ds
    cases ru
    obtain ⟨as, rd⟩ := Dp.reads I (.list ds) (.ref a) (.ref a) (.lst sq da) rfl
    exact repr_of_reads' rd sh (fun e => by rw [nd] at e; cases e) gd (by omega) (fun _ _ e => e) (fun h' u tk hk => fin (I.kept hk) rfl) hz
  | tup sq da =>
    rename_i a ys ds
    cases ru
    obtain ⟨as, rd⟩ := Dp.reads I (.tuple ds) (.ref a) (.ref a) (.tup sq da) rfl
    exact repr_of_reads' rd sh (fun e => by rw [nd] at e; cases e) gd (by omega) (fun _ _ e => e) (fun h' u tk hk => fin (I.kept hk) rfl) hz
theorem bok_repr {K : PySem.W.Frag} : BOk K (rRepr K) (gD reprD) := bok_D fun H vs ds z rr e Q q => by
  unfold reprD at e
  split at e
  · rename_i d
    cases ep : d.py with
    | none => rw [ep] at e; cases e
    | some p =>
      rw [ep] at e
      dsimp only at e
      split at e
      · rename_i h
        cases e
        cases rr with
        | cons r rs => cases rs; exact ⟨_, p, rfl, r.dp ep, h.1, h.2.1, h.2.2.1, Nat.le_trans h.2.2.2 (by rw [sizeLine_eq]; decide), q _ fun H' => .str _⟩
      · cases e
  · cases e
/-! tuple(x), list(x): of a list or a tuple -/
def gTupOf : GB := fun rs S => match rs with
  | [r] => match r.its S with
    | some (_, ds) => some (.d (.tup ds), S)
    | none => none
  | _ => none
def gLstOf : GB := fun rs S => match rs with
  | [r] => match r.its S with
    | some (_, ds) => some (.val (.own (ds.map SV.dat)), S)
    | none => none
  | _ => none
theorem rvs_one {K : PySem.W.Frag} {S : Sto} {σ : Sl} {H Φ : Hp} {A : List Addr} {vs : List V} {r : R} {T : List Addr} (h : RVs K Φ H A S σ vs [r] T) : ∃ v, vs = [v] ∧ RV K Φ H A S σ v r T := by
  cases h with
  | cons q t => cases t; exact ⟨_, rfl, by rw [List.append_nil]; exact q⟩
theorem bok_tupOf {K : PySem.W.Frag} : BOk K (fun xs H Q => ∃ p ys, xs = [.ref p] ∧ ((SqL K H p ys ∧ ∀ l, H l = none → Q (.ref l) (upd H l (.tup ys))) ∨ (SqT K H p ys ∧ Q (.ref p) H))) gTupOf := by
  intro S σ H Φ A F G vs rs T st rv nd rz S' e Q q
  unfold gTupOf at e
  split at e
  · rename_i r
    cases ei : r.its S with
    | none => rw [ei] at e; cases e
    | some td =>
      obtain ⟨t, ds⟩ := td
      rw [ei] at e; cases e
      obtain ⟨v, rfl, rv1⟩ := rvs_one rv
      obtain ⟨Φ', a, ws, rfl, sq, rr, sp, st'⟩ := its_ok st rv1 nd ei
      refine ⟨a, ws, rfl, ?_⟩
      cases t with
      | false => exact .inl ⟨sq, fun l hl => end_tup q sp st' rr hl⟩
      | true =>
        have d1 := rv1.dat st (its_tup ei)
        exact .inr ⟨sq, q _ H Φ A [] F G ⟨fun _ _ e _ => e, fun _ _ e => e, fun _ _ e => .inl e, fun b hb => .inl (by simp only [List.nil_append] at hb; simp [hb]), fun _ h => .inl h, fun _ h => h, Pfx.refl⟩ st (RS.dat d1) (by simpa using st.nd) .refl⟩
  · cases e
theorem bok_lstOf {K : PySem.W.Frag} : BOk K (fun xs H Q => ∃ p ys, xs = [.ref p] ∧ (SqL K H p ys ∨ SqT K H p ys) ∧ ∀ l, H l = none → Q (.ref l) (upd H l (.lst ys))) gLstOf := by
  intro S σ H Φ A F G vs rs T st rv nd rz S' e Q q
  unfold gLstOf at e
  split at e
  · rename_i r
    cases ei : r.its S with
    | none => rw [ei] at e; cases e
    | some td =>
      obtain ⟨t, ds⟩ := td
      rw [ei] at e; cases e
      obtain ⟨v, rfl, rv1⟩ := rvs_one rv
      obtain ⟨Φ', a, ws, rfl, sq, rr, sp, st'⟩ := its_ok st rv1 nd ei
      refine ⟨a, ws, rfl, ?_, fun l hl => end_list q sp st' rr hl⟩
      cases t with
      | false => exact .inl (sq)
      | true => exact .inr sq
  · cases e
end L3

namespace L3
open PySem PySem.Spec PyProof.Rows L2

/-! ### what is walked: a list, a tuple, a range -/
section
variable {X : Cx} {W : WX} {tg e : Expr} {es : List Expr} {p pos : Pos} {te : TE} {t : TA} {fe : FE} {fa : FA}
theorem stay0 {F G A : List Addr} {H Φ : Hp} : Step F G H Φ A F G H Φ A := .refl
theorem walk_L {K : PySem.W.Frag} {Φ0 : Hp} {a : Addr} {vs : List V} {ds : List D} (sq : SqL K Φ0 a vs) (rr : Rps K Φ0 vs ds) : Walk K Φ0 (Itl K a) ds := fun S σ H Φ A F G st le i => by
  have s1 : SqL K H a vs := sqL_mono st.le (sqL_mono le sq)
  refine ⟨fun d ed => ?_, fun ei => ⟨vs, s1, by rw [rr.length, ei]; exact Nat.le_refl _⟩⟩
  obtain ⟨v, ev, rv⟩ := rr.get' ed
  refine ⟨⟨vs, v, s1, ev⟩, fun x H' hy => ?_⟩
  obtain ⟨rfl, hx⟩ := hy
  have ex := hx vs (s1)
  rw [ev] at ex; cases ex
  exact ⟨Φ, .refl, st, rv.mono le⟩
theorem walk_T {K : PySem.W.Frag} {Φ0 : Hp} {a : Addr} {vs : List V} {ds : List D} (sq : SqT K Φ0 a vs) (rr : Rps K Φ0 vs ds) : Walk K Φ0 (Itt K a) ds := fun S σ H Φ A F G st le i => by
  have s1 : SqT K H a vs := sqT_mono st.le (sqT_mono le sq)
  refine ⟨fun d ed => ?_, fun ei => ⟨vs, s1, by rw [rr.length, ei]; exact Nat.le_refl _⟩⟩
  obtain ⟨v, ev, rv⟩ := rr.get' ed
  refine ⟨⟨vs, v, s1, ev⟩, fun x H' hy => ?_⟩
  obtain ⟨rfl, hx⟩ := hy
  have ex := hx vs s1
  rw [ev] at ex; cases ex
  exact ⟨Φ, .refl, st, rv.mono le⟩
/-- the signs of a text -/
def signs (x : Str) : List D := x.cps.toList.map fun c => .str ⟨#[c]⟩
theorem walk_S {K : PySem.W.Frag} {Φ0 : Hp} {x : Str} : Walk K Φ0 (Its x) (signs x) := fun S σ H Φ A F G st le i => by
  have hl : (signs x).length = x.cps.size := by unfold signs; simp
  refine ⟨fun d ed => ?_, fun ei => by rw [hl] at ei; exact Nat.le_of_eq ei.symm⟩
  have hi : i < x.cps.size := by rw [← hl]; exact (List.getElem?_eq_some_iff.mp ed).1
  refine ⟨hi, fun y H' hy => ?_⟩
  obtain ⟨rfl, c, ec, rfl⟩ := hy
  have ed2 : d = .str ⟨#[c]⟩ := by
    unfold signs at ed
    rw [List.getElem?_map] at ed
    have e3 : x.cps.toList[i]? = some c := by simpa using ec
    rw [e3] at ed
    cases ed; rfl
  subst ed2
  exact ⟨Φ, .refl, st, .str _⟩
/-- a list, a tuple, a text: walked -/
def wAny (K : PySem.W.Frag) (te : TE) : TI := fun σ H R => te σ H fun x H1 => (∃ a xs, x = .ref a ∧ SqL K H1 a xs ∧ R (Itl K a) H1) ∨ (∃ a xs, x = .ref a ∧ SqT K H1 a xs ∧ R (Itt K a) H1) ∨ ∃ z, x = .str z ∧ R (Its z) H1
theorem pi_any (h : PE X e te) : PI X tg e (wAny X.K te) := ⟨fun pins s σ H R I hw => thn (h.run pins s σ H _ I hw) fun v s1 ⟨x, H1, I1, r1, q1⟩ => by
  rcases q1 with ⟨a, xs, ex, sq, q⟩ | ⟨a, xs, ex, sq, q⟩ | ⟨z, ex, q⟩
  · subst ex
    obtain rfl : v = .ref a := r1
    obtain ⟨its, _, pl, _⟩ := I1.list sq
    exact wpAny_pyIter_list pl.isList (pi_one (tk := s1.toks) I1 _ (turn_list a _) ⟨_, Heap.get?_push_size _ rfl, rfl, rfl⟩ q)
  · subst ex
    obtain rfl : v = .ref a := r1
    obtain ⟨its, _, pl, _⟩ := I1.tuple sq
    exact wpAny_pyIter_tuple (show s1.heap.IsTuple a its.toArray from pl) (pi_one (tk := s1.toks) I1 _ (turn_tuple a _) ⟨_, Heap.get?_push_size _ rfl, rfl, rfl⟩ q)
  · subst ex
    obtain ⟨t, rfl⟩ := r1
    by_cases ha : z.cps.all (· < 128) = true
    · exact wpAny_pyIter_ascii ha (pi_one (tk := s1.toks) I1 _ (turn_str _ z t "str_ascii_iterator" (.inl rfl)) ⟨_, Heap.get?_push_size _ rfl, rfl, rfl⟩ q)
    · exact wpAny_pyIter_wide (by simpa using ha) (pi_one (tk := s1.toks) I1 _ (turn_str _ z t "str_iterator" (.inr rfl)) ⟨_, Heap.get?_push_size _ rfl, rfl, rfl⟩ q)⟩
def fItems (fe : FE) : FI := bindE fe fun r S => match r.esc S with
  | some (.lst ds, S1) => some (.ok ds S1)
  | some (.tup ds, S1) => some (.ok ds S1)
  | some (.str x, S1) => some (.ok (signs x) S1)
  | _ => none
theorem di_any (h : DE X W e te fe) : DI X W tg e (wAny X.K te) (fItems fe) := ⟨pi_any h.pe, fun S σ H Φ A F G st out ho R q => by
  refine run1 (t := te) h.ev st ho (fun e S' eo => by subst eo; exact q) fun r S1 v H1 Φ1 A1 T F1 G1 sp st1 rv nd fz h1 => ?_
  cases ee : r.esc S1 with
  | none => rw [ee] at h1; cases h1
  | some z =>
    obtain ⟨d, S2⟩ := z
    rw [ee] at h1
    obtain ⟨Φ2, F2, sp2, st2, rp2, fz2⟩ := esc_ok st1 rv nd ee
    cases d <;> try cases h1
    · cases rp2
      exact .inr (.inr ⟨_, rfl, q _ H1 Φ2 A1 F2 G1 (sp.trans0 sp2) st2 (fz.trans fz2) walk_S⟩)
    · cases rp2 with
      | lst sq rr => exact .inl ⟨_, _, rfl, sqL_mono st2.le sq, q _ H1 Φ2 A1 F2 G1 (sp.trans0 sp2) st2 (fz.trans fz2) (walk_L sq rr)⟩
    · cases rp2 with
      | tup sq rr => exact .inr (.inl ⟨_, _, rfl, sqT_mono st2.le sq, q _ H1 Φ2 A1 F2 G1 (sp.trans0 sp2) st2 (fz.trans fz2) (walk_T sq rr)⟩)⟩
/-- range -/
def rangeL (lo : Int) (n : Nat) (c : Int) : List D := (List.range n).map fun (i : Nat) => D.int (lo + (i : Int) * c)
theorem rangeL_get {lo c : Int} {n i : Nat} {d : D} (h : (rangeL lo n c)[i]? = some d) : i < n ∧ d = .int (lo + (i : Int) * c) := by
  unfold rangeL at h
  rw [List.getElem?_map] at h
  by_cases hi : i < n
  · rw [List.getElem?_range hi] at h; cases h; exact ⟨hi, rfl⟩
  · rw [List.getElem?_eq_none (by simpa using hi)] at h; cases h
theorem walk_R {K : PySem.W.Frag} {Φ0 : Hp} {lo : Int} {n : Nat} : Walk K Φ0 (Itr lo n) (rangeL lo n 1) := fun S σ H Φ A F G st le i => by
  refine ⟨fun d ed => ?_, fun ei => by unfold rangeL at ei; simp at ei; exact Nat.le_of_eq ei.symm⟩
  obtain ⟨hi, rfl⟩ := rangeL_get ed
  refine ⟨hi, fun y H' hy => ?_⟩
  obtain ⟨rfl, rfl⟩ := hy
  refine ⟨Φ, .refl, st, ?_⟩
  rw [Int.mul_one]; exact .int _
theorem walk_RC {K : PySem.W.Frag} {Φ0 : Hp} {lo c : Int} {n : Nat} : Walk K Φ0 (Itc lo c n) (rangeL lo n c) := fun S σ H Φ A F G st le i => by
  refine ⟨fun d ed => ?_, fun ei => by unfold rangeL at ei; simp at ei; exact Nat.le_of_eq ei.symm⟩
  obtain ⟨hi, rfl⟩ := rangeL_get ed
  refine ⟨hi, fun y H' hy => ?_⟩
  obtain ⟨rfl, rfl⟩ := hy
  exact ⟨Φ, .refl, st, .int _⟩
def small62 (i : Int) : Prop := -(2 ^ 62) ≤ i ∧ i < 2 ^ 62
instance (i : Int) : Decidable (small62 i) := by unfold small62; infer_instance
def range1 : List D → Option (List D)
  | [.int j] => if small62 j then some (rangeL 0 j.toNat 1) else none
  | _ => none
def range2 : List D → Option (List D)
  | [.int i, .int j] => if small62 i ∧ small62 j then some (rangeL i (j - i).toNat 1) else none
  | _ => none
/-- the turns of a range with a step -/
def steps3 (i j c : Int) : Nat := if c = -1 then (i - j).toNat else if c = 1 then (j - i).toNat else ((j - i + 1) / 2).toNat
def range3 : List D → Option (List D)
  | [.int i, .int j, .int c] => if small62 i ∧ small62 j ∧ (c = -1 ∨ c = 1 ∨ c = 2) then some (rangeL i (steps3 i j c) c) else none
  | _ => none
def fRange (g : List D → Option (List D)) (fa : FA) : FI := bindE fa fun rs S => (peeksR rs S).bind fun ds => (g ds).map fun is => .ok is S
theorem ev_range {K : PySem.W.Frag} {g : List D → Option (List D)} {k : List V → Hp → (It → Hp → Prop) → Prop} (ha : EVA K W t fa)
    (hk : ∀ H vs ds is, Rps K H vs ds → g ds = some is → ∃ J, (∀ Φ0, Walk K Φ0 J is) ∧ ∀ R : It → Hp → Prop, R J H → k vs H R) : IEV K W (fun σ H R => t σ H fun vs H1 => k vs H1 R) (fRange g fa) := fun S σ H Φ A F G st out ho R q => by
  refine runA (t := t) ha st ho (fun e S' eo => by subst eo; exact q) fun rs S1 vs H1 Φ1 A1 T F1 G1 sp st1 rv nd fz h1 => ?_
  cases e1 : peeksR rs S1 with
  | none => rw [e1] at h1; cases h1
  | some ds =>
    rw [e1] at h1
    have h1 : (g ds).map (fun is => Out.ok is S1) = some out := h1
    cases e2 : g ds with
    | none => rw [e2] at h1; cases h1
    | some is =>
      rw [e2] at h1; cases h1
      obtain ⟨J, wk, hR⟩ := hk H1 vs ds is (peeksR_ok st1 rv e1) e2
      exact hR R (q J H1 Φ1 A1 F1 G1 sp.drop st1 fz (wk _))
theorem di_range1 {a : Expr} (hm : X.mg "range" = none) (ha : DA X W [a] t fa) (hg : Gl X "range" := by rfl) (hs : starEach [a] X.env = [(false, eval a X.env)] := by rfl) : DI X W tg (.Call (.Name "range" p) [a] [] pos) (iRng1 t) (fRange range1 fa) := ⟨pi_range1 hg hm ha.pe hs, ev_range (k := fun vs H1 R => ∃ j : Int, vs = [.int j] ∧ -(2 ^ 62) ≤ j ∧ j < 2 ^ 62 ∧ R (Itr 0 j.toNat) H1) ha.ev fun H vs ds is rr e => by
  unfold range1 at e
  split at e
  · rename_i j
    split at e
    · rename_i h
      cases e
      cases rr with
      | cons r rs => cases rs; cases r; exact ⟨Itr 0 j.toNat, fun _ => walk_R, fun R q => ⟨j, rfl, h.1, h.2, q⟩⟩
    · cases e
  · cases e⟩
theorem di_range2 {a b : Expr} (hm : X.mg "range" = none) (ha : DA X W [a, b] t fa) (hg : Gl X "range" := by rfl) (hs : starEach [a, b] X.env = [(false, eval a X.env), (false, eval b X.env)] := by rfl) (hs2 : starEach [b] X.env = [(false, eval b X.env)] := by rfl) : DI X W tg (.Call (.Name "range" p) [a, b] [] pos) (iRng2 t) (fRange range2 fa) := ⟨pi_range2 hg hm ha.pe hs hs2, ev_range (k := fun vs H1 R => ∃ i j : Int, vs = [.int i, .int j] ∧ (-(2 ^ 62) ≤ i ∧ i < 2 ^ 62 ∧ -(2 ^ 62) ≤ j ∧ j < 2 ^ 62) ∧ R (Itr i (j - i).toNat) H1) ha.ev fun H vs ds is rr e => by
  unfold range2 at e
  split at e
  · rename_i i j
    split at e
    · rename_i h
      cases e
      cases rr with
      | cons r rs => cases rs with
        | cons r' rs => cases rs; cases r; cases r'; exact ⟨Itr i (j - i).toNat, fun _ => walk_R, fun R q => ⟨i, j, rfl, ⟨h.1.1, h.1.2, h.2.1, h.2.2⟩, q⟩⟩
    · cases e
  · cases e⟩
theorem rgc_ok {i j c : Int} (h1 : small62 i) (h2 : small62 j) (hc : c = -1 ∨ c = 1 ∨ c = 2) : RgC i j c (steps3 i j c) := by
  obtain ⟨a1, a2⟩ := h1
  obtain ⟨b1, b2⟩ := h2
  rcases hc with rfl | rfl | rfl
  · exact RgC.neg a1 a2 b1 b2
  · refine ⟨by decide, by decide, small_one a1 a2 b1 b2, ?_⟩
    have e : steps3 i j 1 = (j - i).toNat := rfl
    rw [e, rangeSize_one]
    split <;> omega
  · have e : steps3 i j 2 = ((j - i + 1) / 2).toNat := rfl
    refine ⟨by decide, by decide, ?_, ?_⟩
    · unfold Builtin.Range.small Builtin.Range.rangeSize
      simp only [Builtin.Range.rangeFitsLong, Bool.and_eq_true, Bool.or_eq_true, decide_eq_true_eq, beq_iff_eq, show (2 : Int) > 0 by decide, if_true]
      split <;> omega
    · rw [e]
      unfold Builtin.Range.rangeSize
      simp only [show (2 : Int) > 0 by decide, if_true]
      split <;> omega
theorem di_range3 {a b c : Expr} (hm : X.mg "range" = none) (ha : DA X W [a, b, c] t fa) (hg : Gl X "range" := by rfl) (hs : starEach [a, b, c] X.env = (false, eval a X.env) :: starEach [b, c] X.env := by rfl) (hpl : (backTo pos (starEach [b, c] X.env)).any (·.1) = false := by rfl) : DI X W tg (.Call (.Name "range" p) [a, b, c] [] pos) (iRng3 t) (fRange range3 fa) := ⟨pi_range3 hg hm ha.pe hs hpl, ev_range (k := fun vs H1 R => ∃ (i j c : Int) (n : Nat), vs = [.int i, .int j, .int c] ∧ RgC i j c n ∧ R (Itc i c n) H1) ha.ev fun H vs ds is rr e => by
  unfold range3 at e
  split at e
  · rename_i i j c
    split at e
    · rename_i h
      cases e
      cases rr with
      | cons r rs => cases rs with
        | cons r' rs => cases rs with
          | cons r'' rs => cases rs; cases r; cases r'; cases r''; exact ⟨Itc i c (steps3 i j c), fun _ => walk_RC, fun R q => ⟨i, j, c, _, rfl, rgc_ok h.1 h.2.1 h.2.2, q⟩⟩
    · cases e
  · cases e⟩
end
end L3

namespace L3
open PySem PySem.Spec PyProof.Rows L2

/-! ### [e for target in .. if ..] -/
def wipeL (ρ : List (Option SV)) : List Nat → List (Option SV)
  | [] => ρ
  | v :: vs => (wipeL ρ vs).set v none
def Sto.wipe (S : Sto) (vs : List Nat) : Sto := { S with ρ := wipeL S.ρ vs }
section
variable {K : PySem.W.Frag} {S S' : Sto} {σ : Sl} {H Φ : Hp} {A F G : List Addr}
theorem ro_set_none : ∀ {σ : Sl} {ρ : List (Option SV)} {F : List Addr} {i : Nat}, RO K Φ H A σ ρ F → ∃ F', RO K Φ H A (σ.set i none) (ρ.set i none) F' ∧ F'.Sublist F
  | _, _, _, _, .nil => ⟨[], by simpa using .nil, List.Sublist.refl _⟩
  | _, _, _, 0, .non (F := F) r => ⟨F, .non r, List.Sublist.refl _⟩
  | _, _, _, 0, .som (F := F) (G := G) _ r => ⟨G, .non r, List.sublist_append_right F G⟩
  | _, _, _, i + 1, .non r => by
    obtain ⟨F', r', s⟩ := ro_set_none (i := i) r
    exact ⟨F', .non r', s⟩
  | _, _, _, i + 1, .som (F := F) q r => by
    obtain ⟨F', r', s⟩ := ro_set_none (i := i) r
    exact ⟨F ++ F', .som q r', (List.Sublist.refl F).append s⟩
theorem ro_wipe {σ : Sl} {ρ : List (Option SV)} {F : List Addr} (r : RO K Φ H A σ ρ F) : ∀ vs : List Nat, ∃ F', RO K Φ H A (wipe σ vs) (wipeL ρ vs) F' ∧ F'.Sublist F
  | [] => ⟨F, r, List.Sublist.refl _⟩
  | v :: vs => by
    obtain ⟨F1, r1, s1⟩ := ro_wipe r vs
    obtain ⟨F2, r2, s2⟩ := ro_set_none (i := v) r1
    exact ⟨F2, r2, s2.trans s1⟩
theorem Stands.wipe (st : Stands K S σ H Φ A F G) (vs : List Nat) : ∃ F', Stands K (S.wipe vs) (L2.wipe σ vs) H Φ A F' G ∧ F'.Sublist F := by
  obtain ⟨F', r, s⟩ := ro_wipe st.ro vs
  exact ⟨F', ⟨st.le, r, st.rc, st.nd.sublist (s.append (List.Sublist.refl G))⟩, s⟩
theorem wipe_at (σ : Sl) : ∀ (vs : List Nat) (j : Nat), j ∉ vs → (L2.wipe σ vs)[j]? = σ[j]?
  | [], j, _ => rfl
  | v :: vs, j, h => by
    rw [List.mem_cons, not_or] at h
    unfold L2.wipe
    rw [List.getElem?_set_ne (fun e => h.1 e.symm)]
    exact wipe_at σ vs j h.2
theorem wipe_in (σ : Sl) : ∀ (vs : List Nat) (j : Nat), j ∈ vs → j < σ.length → (L2.wipe σ vs)[j]? = some none
  | v :: vs, j, h, hj => by
    unfold L2.wipe
    by_cases e : v = j
    · subst e; rw [List.getElem?_set_self (by rw [wipe_length]; exact hj)]
    · rw [List.getElem?_set_ne e]
      exact wipe_in σ vs j (by rcases List.mem_cons.mp h with h | h; exact absurd h.symm e; exact h) hj
/-- wiped again -/
theorem wipe_but {σ σ' : Sl} {vs is : List Nat} (h : But is (L2.wipe σ vs) σ') (hi : ∀ i ∈ is, i ∈ vs) : L2.wipe σ' vs = L2.wipe σ vs := by
  have hl : σ'.length = σ.length := by rw [h.1, wipe_length]
  apply List.ext_getElem?
  intro j
  by_cases hj : j ∈ vs
  · by_cases hlt : j < σ.length
    · rw [wipe_in σ' vs j hj (by omega), wipe_in σ vs j hj hlt]
    · rw [List.getElem?_eq_none (by rw [wipe_length]; omega), List.getElem?_eq_none (by rw [wipe_length]; omega)]
  · rw [wipe_at σ' vs j hj, h.2 j (fun z => hj (hi j z))]
/-- from wiped slots to the slots as they are -/
theorem ro_unset : ∀ {σ : Sl} {ρ : List (Option SV)} {F : List Addr} {i : Nat}, RO K Φ H A (σ.set i none) ρ F → RO K Φ H A σ ρ F
  | [], _, _, _, r => by simpa using r
  | o :: σ, _, _, 0, .non r => .non r
  | o :: σ, _, _, i + 1, r => by
    have r : RO K Φ H A (o :: σ.set i none) _ _ := r
    cases r with
    | non r2 => exact .non (ro_unset r2)
    | som q r2 => exact .som q (ro_unset r2)
theorem ro_unwipe : ∀ (vs : List Nat) {σ : Sl} {ρ : List (Option SV)} {F : List Addr}, RO K Φ H A (L2.wipe σ vs) ρ F → RO K Φ H A σ ρ F
  | [], _, _, _, r => r
  | v :: vs, σ, ρ, F, r => ro_unwipe vs (ro_unset (i := v) r)
theorem Stands.unwipe {vs : List Nat} (st : Stands K S (L2.wipe σ vs) H Φ A F G) : Stands K S σ H Φ A F G := ⟨st.le, ro_unwipe vs st.ro, st.rc, st.nd⟩
theorem frz_wipe (S : Sto) : ∀ vs : List Nat, Frz S (S.wipe vs) := by
  intro vs
  induction vs with
  | nil => exact .refl
  | cons v vs ih =>
    intro i p y hp h
    refine ih i p y hp ?_
    unfold Sto.sub at h ⊢
    have e : (S.wipe (v :: vs)).ρ = ((S.wipe vs).ρ).set v none := rfl
    rw [e] at h
    by_cases hj : v = i
    · subst hj
      by_cases hl : v < (S.wipe vs).ρ.length
      · rw [List.getElem?_set_self hl] at h; cases h
      · rw [List.getElem?_eq_none (by simpa using hl)] at h; cases h
    · rw [List.getElem?_set_ne hj] at h; exact h
theorem Step.subF {F1 G1 F2 : List Addr} {H1 Φ1 : Hp} {A1 : List Addr} (a : Step F G H Φ A F1 G1 H1 Φ1 A1) (h : ∀ b ∈ F2, b ∈ F1) : Step F G H Φ A F2 G1 H1 Φ1 A1 := ⟨a.keep, a.le, a.grow, fun b hb => a.ownF b (h b hb), a.ownG, a.live, a.cells⟩
theorem tg_frz {tg : Tg} : True := trivial
end
/-- the elements, one for each datum that the test lets by -/
def compF (tg : Tg) (ft : FT) (fe : FE) (vs : List Nat) : List D → List SV → Sto → Option (List SV × Sto)
  | [], acc, S => some (acc, S)
  | d :: r, acc, S => match tgS tg d S.ρ with
    | some ρ => match ft { S with ρ := ρ } with
      | some (.ok true S1) => match fe S1 with
        | some (.ok y S2) => match y.kid S2 with
          | some (x, S3) => if acc.length < 1000000 then compF tg ft fe vs r (acc ++ [x]) (S3.wipe vs) else none
          | none => none
        | _ => none
      | some (.ok false S1) => compF tg ft fe vs r acc (S1.wipe vs)
      | _ => none
    | none => none
def fComp (tg : Tg) (fi : FI) (ft : FT) (fe : FE) (vs : List Nat) : FE := bindE fi fun ds S => match compF tg ft fe vs ds [] (S.wipe vs) with
  | some (acc, S1) => some (.ok (.val (.own acc)) S1)
  | none => none
/-- within a comprehension nothing is raised -/
abbrev W0 : WX := fun _ _ _ _ => False
theorem rss_snoc {K : PySem.W.Frag} {Φ H : Hp} {A : List Addr} {vs : List V} {xs : List SV} {U T : List Addr} {v : V} {x : SV} (h : RSs K Φ H A vs xs U) (q : RS K Φ H A v x T) : RSs K Φ H A (vs ++ [v]) (xs ++ [x]) (U ++ T) := by
  have := h.app (RSs.cons q (.nil (K := K) (Φ := Φ) (H := H) (A := A)))
  rwa [List.append_nil] at this
/-- a list of our own, one longer -/
theorem grow_list {K : PySem.W.Frag} {S : Sto} {σ : Sl} {H Φ : Hp} {A F G U T : List Addr} {p : Addr} {acc : List SV} {v : V} {x : SV} (st : Stands K S σ H Φ A F G) (h : RS K Φ H A (.ref p) (.own acc) (p :: U)) (q : RS K Φ H A v x T) (nd : ((p :: U) ++ (T ++ (F ++ G))).Nodup) :
    ∃ vs, H p = some (.lst vs) ∧ vs.length = acc.length ∧ Stands K S σ (upd H p (.lst (vs ++ [v]))) Φ A F G ∧ RS K Φ (upd H p (.lst (vs ++ [v]))) A (.ref p) (.own (acc ++ [x])) (p :: (U ++ T)) := by
  cases h with
  | node ea f pa r =>
    rename_i vs
    have ea : H p = some (.lst vs) := ea
    have nep : ∀ b ∈ U ++ (T ++ (F ++ G)), b ≠ p := fun b hb e => by
      subst e
      exact (List.nodup_cons.mp nd).1 hb
    have same : ∀ b ∈ U ++ (T ++ (F ++ G)), upd H p (.lst (vs ++ [v])) b = H b := fun b hb => upd_ne (nep b hb)
    have leΦ : Same Φ (upd H p (.lst (vs ++ [v]))) := fun b o e => by
      have hb : b ≠ p := fun z => by subst z; rw [pa] at e; cases e
      rw [upd_ne hb]; exact st.le _ _ e
    refine ⟨vs, ea, r.length, ⟨leΦ, st.ro.frame (Same.refl _) Pfx.refl (fun b hb => same b (by simp [hb])) (fun b hb => (st.ro.there b hb).2), st.rc.frame (Same.refl _) Pfx.refl (fun b hb => same b (by simp [hb])) (fun b hb => (st.rc.there b hb).2), st.nd⟩, ?_⟩
    exact .node (n := .lst) upd_same ⟨trivial, trivial⟩ pa (rss_snoc (r.frame (Same.refl _) Pfx.refl (fun b hb => same b (by simp [hb])) (fun b hb => (r.there b hb).2)) (q.frame (Same.refl _) Pfx.refl (fun b hb => same b (by simp [hb])) (fun b hb => (q.there b hb).2)))
theorem put_frz {μ : List SV} {ρ : List (Option SV)} {i : Nat} {d : D} : Frz ⟨ρ, μ⟩ ⟨ρ.set i (some (.dat d)), μ⟩ := fun j p y hp h => by
  unfold Sto.sub at h ⊢
  dsimp only at h ⊢
  by_cases hj : i = j
  · subst hj
    by_cases hl : i < ρ.length
    · rw [List.getElem?_set_self hl] at h
      cases p with
      | nil => exact absurd rfl hp
      | cons k p => cases h
    · rw [List.getElem?_eq_none (by simpa using hl)] at h; cases h
  · rw [List.getElem?_set_ne hj] at h; exact ⟨y, h⟩
mutual
theorem tgS_frz {μ : List SV} : ∀ (tg : Tg) (d : D) (ρ0 ρ : List (Option SV)), tgS tg d ρ0 = some ρ → Frz ⟨ρ0, μ⟩ ⟨ρ, μ⟩
  | .nm i, d, ρ0, ρ, e => by
    rw [tgS] at e
    split at e
    · cases e; exact put_frz
    · cases e
  | .tp ts, .tup ds, ρ0, ρ, e => by rw [tgS] at e; exact tgsS_frz ts ds ρ0 ρ e
  | .tp ts, .non, ρ0, ρ, e => by simp [tgS] at e
  | .tp ts, .bl _, ρ0, ρ, e => by simp [tgS] at e
  | .tp ts, .int _, ρ0, ρ, e => by simp [tgS] at e
  | .tp ts, .str _, ρ0, ρ, e => by simp [tgS] at e
  | .tp ts, .lst _, ρ0, ρ, e => by simp [tgS] at e
  | .tp ts, .dK _ _, ρ0, ρ, e => by simp [tgS] at e
  | .tp ts, .dT _ _, ρ0, ρ, e => by simp [tgS] at e
  | .tp ts, .fn _, ρ0, ρ, e => by simp [tgS] at e
theorem tgsS_frz {μ : List SV} : ∀ (ts : List Tg) (ds : List D) (ρ0 ρ : List (Option SV)), tgsS ts ds ρ0 = some ρ → Frz ⟨ρ0, μ⟩ ⟨ρ, μ⟩
  | [], [], ρ0, ρ, e => by rw [tgsS] at e; cases e; exact .refl
  | [], _ :: _, ρ0, ρ, e => by simp [tgsS] at e
  | _ :: _, [], ρ0, ρ, e => by simp [tgsS] at e
  | t :: ts, d :: ds, ρ0, ρ, e => by
    rw [tgsS] at e
    cases e1 : tgS t d ρ0 with
    | none => rw [e1] at e; cases e
    | some ρ1 => rw [e1] at e; exact (tgS_frz t d ρ0 ρ1 e1).trans (tgsS_frz ts ds ρ1 ρ e)
end
theorem tg_step {S : Sto} {tg : Tg} {d : D} {ρ : List (Option SV)} (e : tgS tg d S.ρ = some ρ) : Frz S { S with ρ := ρ } := tgS_frz tg d S.ρ ρ e
theorem ev_comp {K : PySem.W.Frag} {W : WX} {wi : TI} {g : TG} {tt : TT} {te : TE} {tg : Tg} {fi : FI} {ft : FT} {fe : FE} {vs : List Nat} (hi : IEV K W wi fi) (hg : GEV K g tg) (ht : EVT K W0 tt ft) (he : EV K W0 te fe) (hv : ∀ i ∈ tg.sl, i ∈ vs) :
    EV K W (tLc wi g tt te vs) (fComp tg fi ft fe vs) := fun S σ H Φ A F G st out ho Q q => by
  unfold fComp bindE at ho
  cases e : fi S with
  | none => rw [e] at ho; cases ho
  | some o =>
    rw [e] at ho
    cases o with
    | exc x S1 => cases ho; exact hi S σ H Φ A F G st _ e _ q
    | ok ds S1 =>
      refine hi S σ H Φ A F G st _ e _ fun J H1 Φ1 A1 F1 G1 sp st1 fz wk => ?_
      dsimp only at ho
      intro L hL
      cases ec : compF tg ft fe vs ds [] (S1.wipe vs) with
      | none => rw [ec] at ho; cases ho
      | some z =>
        obtain ⟨accE, SE⟩ := z
        rw [ec] at ho; cases ho
        obtain ⟨F1', stw, sub1⟩ := st1.wipe vs
        refine ⟨fun i m H2 => i + m = ds.length ∧ ∃ S2 Φ2 A2 F2 G2 acc U, Step F1 G1 H1 Φ1 A1 ((L :: U) ++ F2) G2 H2 Φ2 A2 ∧ Stands K S2 (L2.wipe σ vs) H2 Φ2 A2 F2 G2 ∧ RS K Φ2 H2 A2 (.ref L) (.own acc) (L :: U) ∧ ((L :: U) ++ (F2 ++ G2)).Nodup ∧ Frz S1 S2 ∧ Same Φ1 Φ2 ∧ compF tg ft fe vs (ds.drop i) acc S2 = some (accE, SE),
          ⟨ds.length, by omega, S1.wipe vs, Φ1, A1, F1', G1, [], [], ?_⟩, ?_⟩
        · obtain ⟨n1, n2, n3, n4⟩ := new_list stw (.nil (K := K) (Φ := Φ1) (H := H1) (A := A1)) (by simpa using stw.nd) hL
          refine ⟨?_, n2, n3, n4, frz_wipe S1 vs, Same.refl _, by simpa using ec⟩
          have := n1
          simp only [List.nil_append] at this
          exact ⟨this.keep, this.le, fun b o e => .inl e, fun b hb => by
            rcases this.ownF b hb with h | h | h
            · exact .inl (sub1.subset h)
            · exact .inr (.inl h)
            · exact .inr (.inr h), this.ownG, this.live, this.cells⟩
        · rintro i m H2 ⟨em, S2, Φ2, A2, F2, G2, acc, U, sp2, st2, rl, nd2, fz2, le2, h2⟩
          obtain ⟨w1, w2⟩ := wk S2 (L2.wipe σ vs) H2 Φ2 A2 F2 G2 st2 le2 i
          by_cases hi : i < ds.length
          · have ed : ds[i]? = some ds[i] := List.getElem?_eq_getElem hi
            obtain ⟨jgo, jy⟩ := w1 _ ed
            have ecd : ds.drop i = ds[i] :: ds.drop (i + 1) := List.drop_eq_getElem_cons hi
            rw [ecd] at h2
            refine .inr ⟨jgo, fun H' => ∃ S3 Φ3 A3 F3 G3 acc3 U3, Step F1 G1 H1 Φ1 A1 ((L :: U3) ++ F3) G3 H' Φ3 A3 ∧ Stands K S3 (L2.wipe σ vs) H' Φ3 A3 F3 G3 ∧ RS K Φ3 H' A3 (.ref L) (.own acc3) (L :: U3) ∧ ((L :: U3) ++ (F3 ++ G3)).Nodup ∧ Frz S1 S3 ∧ Same Φ1 Φ3 ∧ compF tg ft fe vs (ds.drop (i + 1)) acc3 S3 = some (accE, SE),
              fun H' h => ⟨m - 1, by omega, by omega, h⟩, fun x H' hy => ?_⟩
            obtain ⟨Φ3, sp3, st3, rp3⟩ := jy x H' hy
            have h2 : (match tgS tg ds[i] S2.ρ with
              | some ρ => match ft { S2 with ρ := ρ } with
                | some (.ok true S1) => match fe S1 with
                  | some (.ok y S2) => match y.kid S2 with
                    | some (x, S3) => if acc.length < 1000000 then compF tg ft fe vs (ds.drop (i + 1)) (acc ++ [x]) (S3.wipe vs) else none
                    | none => none
                  | _ => none
                | some (.ok false S1) => compF tg ft fe vs (ds.drop (i + 1)) acc (S1.wipe vs)
                | _ => none
              | none => none) = some (accE, SE) := h2
            cases e3 : tgS tg ds[i] S2.ρ with
            | none => rw [e3] at h2; cases h2
            | some ρ =>
              rw [e3] at h2
              dsimp only at h2
              -- the target stored
              have rl3 := rl.frame sp3.le sp3.cells (sp3.same (T := L :: U) (fun b hb => rl.there b hb) nd2).1 (sp3.same (T := L :: U) (fun b hb => rl.there b hb) nd2).2
              refine hg S2 (L2.wipe σ vs) H' Φ3 A2 F2 G2 x ds[i] ρ st3 rp3 e3 _ fun σ4 F4 st4 hF4 but4 => ⟨wipe_but but4 hv, ?_⟩
              have nd4 : ((L :: U) ++ (F4 ++ G2)).Nodup := by
                have n4 := st4.nd
                refine List.nodup_append.mpr ⟨(List.nodup_append.mp nd2).1, n4, fun a ha b hb => (List.nodup_append.mp nd2).2.2 a ha b ?_⟩
                rcases List.mem_append.mp hb with hb | hb
                · exact List.mem_append_left _ (hF4 b hb)
                · exact List.mem_append_right _ hb
              have s4 : Step F1 G1 H1 Φ1 A1 ((L :: U) ++ F4) G2 H' Φ3 A2 := (Step.trans (T1 := []) sp2 sp3).subF (F2 := (L :: U) ++ F4) (fun b hb => by
                rcases List.mem_append.mp hb with hb | hb
                · exact List.mem_append_left _ hb
                · exact List.mem_append_right _ (hF4 b hb))
              have fz4 : Frz S1 { S2 with ρ := ρ } := fz2.trans (tg_step e3)
              cases e5 : ft { S2 with ρ := ρ } with
              | none => rw [e5] at h2; cases h2
              | some o5 =>
                rw [e5] at h2
                cases o5 with
                | exc x5 S5 => cases h2
                | ok b S5 =>
                  refine ht _ σ4 H' Φ3 A2 F4 G2 st4 _ e5 _ fun H5 Φ5 A5 F5 G5 sp5 st5 fz5 => ?_
                  obtain ⟨k5, p5⟩ := sp5.same (T := L :: U) (fun b hb => rl3.there b hb) nd4
                  have rl5 := rl3.frame sp5.le sp5.cells k5 p5
                  have nd5 : ((L :: U) ++ (F5 ++ G5)).Nodup := sp5.apart (fun b hb => (rl3.there b hb).1) nd4 st5.nd
                  have s5 : Step F1 G1 H1 Φ1 A1 ((L :: U) ++ F5) G5 H5 Φ5 A5 := Step.trans (T1 := []) s4 sp5
                  cases b with
                  | false =>
                    rw [if_neg (by decide)]
                    dsimp only at h2
                    obtain ⟨F6, st6, sub6⟩ := st5.wipe vs
                    rw [wipe_but but4 hv] at st6
                    refine ⟨S5.wipe vs, Φ5, A5, F6, G5, acc, U, s5.subF (fun b hb => ?_), st6, rl5, ?_, (fz4.trans fz5).trans (frz_wipe _ _), s5.le, h2⟩
                    · rcases List.mem_append.mp hb with hb | hb
                      · exact List.mem_append_left _ hb
                      · exact List.mem_append_right _ (sub6.subset hb)
                    · exact nd5.sublist ((List.Sublist.refl _).append (sub6.append (List.Sublist.refl _)))
                  | true =>
                    rw [if_pos rfl]
                    dsimp only at h2
                    cases e6 : fe S5 with
                    | none => rw [e6] at h2; cases h2
                    | some o6 =>
                      rw [e6] at h2
                      cases o6 with
                      | exc x6 S6 => cases h2
                      | ok y S6 =>
                        refine he S5 σ4 H5 Φ5 A5 F5 G5 st5 _ e6 _ fun yv H6 Φ6 A6 T F6 G6 sp6 st6 rv6 nd6 fz6 => ?_
                        dsimp only at h2
                        obtain ⟨k6, p6⟩ := sp6.same (T := L :: U) (fun b hb => rl5.there b hb) nd5
                        have rl6 := rl5.frame sp6.le sp6.cells k6 p6
                        have nd6' : ((L :: U) ++ (T ++ (F6 ++ G6))).Nodup := by
                          have := sp6.apart (fun b hb => (rl5.there b hb).1) nd5 (by rw [List.append_assoc]; exact nd6)
                          simpa [List.append_assoc] using this
                        have s6 : Step F1 G1 H1 Φ1 A1 ((L :: U) ++ (T ++ F6)) G6 H6 Φ6 A6 := s5.trans sp6
                        cases ek : y.kid S6 with
                        | none => rw [ek] at h2; cases h2
                        | some z7 =>
                          obtain ⟨x7, S7⟩ := z7
                          rw [ek] at h2
                          dsimp only at h2
                          obtain ⟨Φ7, F7, sp7, st7, rs7, fz7⟩ := kid_ok st6 rv6 nd6 ek
                          have hT6 : ∀ b ∈ (L :: U) ++ T, H6 b ≠ none ∧ Φ6 b = none := fun b hb => by
                            rcases List.mem_append.mp hb with hb | hb
                            · exact rl6.there b hb
                            · exact rv6.there b hb
                          have nd6'' : (((L :: U) ++ T) ++ (F6 ++ G6)).Nodup := by simpa [List.append_assoc] using nd6'
                          obtain ⟨k7, p7⟩ := sp7.same (T := (L :: U) ++ T) hT6 nd6''
                          have rl7 := rl6.frame sp7.le sp7.cells (fun b hb => k7 b (List.mem_append_left _ hb)) (fun b hb => p7 b (List.mem_append_left _ hb))
                          have nd7 : ((L :: U) ++ (T ++ (F7 ++ G6))).Nodup := by
                            have := sp7.apart (T := (L :: U) ++ T) (fun b hb => (hT6 b hb).1) nd6'' st7.nd
                            simpa [List.append_assoc] using this
                          have s7 : Step F1 G1 H1 Φ1 A1 ((L :: U) ++ (T ++ F7)) G6 H6 Φ7 A6 := by
                            have s6' : Step F1 G1 H1 Φ1 A1 (((L :: U) ++ T) ++ F6) G6 H6 Φ6 A6 := by rw [List.append_assoc]; exact s6
                            have := Step.trans (T1 := []) s6' sp7
                            rw [List.nil_append, List.append_assoc] at this
                            exact this
                          by_cases hacc : acc.length < 1000000
                          · rw [if_pos hacc] at h2
                            obtain ⟨vs7, eL, hlen, st8, rs8⟩ := grow_list st7 rl7 rs7 nd7
                            refine ⟨vs7, eL, by rw [hlen]; exact Nat.lt_of_lt_of_le hacc (by rw [sizeLine_eq]; decide), ?_⟩
                            obtain ⟨F9, st9, sub9⟩ := st8.wipe vs
                            rw [wipe_but but4 hv] at st9
                            refine ⟨S7.wipe vs, Φ7, A6, F9, G6, acc ++ [x7], U ++ T, ⟨fun b o eb hb => ?_, s7.le, s7.grow, fun b hb => ?_, s7.ownG, fun b hb => ?_, s7.cells⟩, st9, rs8, ?_, (((fz4.trans fz5).trans fz6).trans fz7).trans (frz_wipe _ _), s7.le, h2⟩
                            · have nb : b ≠ L := fun z => by subst z; rw [hL] at eb; cases eb
                              rw [upd_ne nb]; exact s7.keep b o eb hb
                            · refine s7.ownF b ?_
                              simp only [List.mem_append, List.mem_cons] at hb ⊢
                              rcases hb with (h | h | h) | h
                              · exact .inl (.inl h)
                              · exact .inl (.inr h)
                              · exact .inr (.inl h)
                              · exact .inr (.inr (sub9.subset h))
                            · by_cases nb : b = L
                              · subst nb; rw [upd_same]; simp
                              · rw [upd_ne nb]; exact s7.live b hb
                            · have h9 : ((L :: U) ++ (T ++ (F9 ++ G6))).Nodup := nd7.sublist ((List.Sublist.refl _).append ((List.Sublist.refl _).append (sub9.append (List.Sublist.refl _))))
                              have e9 : (L :: (U ++ T)) ++ (F9 ++ G6) = (L :: U) ++ (T ++ (F9 ++ G6)) := by simp [List.append_assoc]
                              rw [e9]; exact h9
                          · rw [if_neg hacc] at h2; cases h2
          · have ei : i = ds.length := by omega
            rw [List.drop_eq_nil_of_le (by omega)] at h2
            cases h2
            refine .inl ⟨w2 ei, ?_⟩
            have s3 : Step F G H Φ A ((L :: U) ++ F2) G2 H2 Φ2 A2 := Step.trans (T := []) (T1 := L :: U) sp sp2
            exact q (.ref L) H2 Φ2 A2 (L :: U) F2 G2 s3 st2.unwipe rl nd2 (fz.trans fz2)
section
variable {X : Cx} {W : WX} {elt tge iter : Expr} {ifs : List Expr} {scope : Scope} {own : List (Str × Nat)} {pos spos py : Pos} {wi : TI} {g : TG} {tt : TT} {te : TE} {tg : Tg} {fi : FI} {ft : FT} {fe : FE}
structure DTs (X : Cx) (W : WX) (ifs : List Expr) (t : TT) (f : FT) : Prop where
  pe : PTs X ifs t
  ev : EVT X.K W t f
def fYes : FT := retE true
theorem dts_nil : DTs X W [] tYes fYes := ⟨pts_nil, fun S σ H Φ A F G st out ho Q q => by cases ho; exact q H Φ A F G .refl st .refl⟩
theorem dts_one {c : Expr} (h : DT X W c tt ft) : DTs X W [c] tt ft := ⟨pts_one h.pe, h.ev⟩
/-- what an expression that does f must be given, whatever its own terms -/
def tOf (K : PySem.W.Frag) (W : WX) (f : FE) : TE := fun σ H Q => ∃ S Φ A F G out, Stands K S σ H Φ A F G ∧ f S = some out ∧ PostE K W S σ H Φ A F G Q out
def tOfT (K : PySem.W.Frag) (W : WX) (f : FT) : TT := fun σ H Q => ∃ S Φ A F G out, Stands K S σ H Φ A F G ∧ f S = some out ∧ PostT K W S σ H Φ A F G Q out
theorem ev_tOf {K : PySem.W.Frag} {W : WX} {f : FE} : EV K W (tOf K W f) f := fun S σ H Φ A F G st out ho Q q => ⟨S, Φ, A, F, G, out, st, ho, q⟩
theorem ev_tOfT {K : PySem.W.Frag} {W : WX} {f : FT} : EVT K W (tOfT K W f) f := fun S σ H Φ A F G st out ho Q q => ⟨S, Φ, A, F, G, out, st, ho, q⟩
theorem DE.nf {e : Expr} (h : ∃ t, DE X W e t fe) : DE X W e (tOf X.K W fe) fe := by
  obtain ⟨t, h⟩ := h
  exact ⟨⟨fun pins s σ H Q I ⟨S, Φ, A, F, G, out, st, ho, q⟩ => h.pe.run pins s σ H Q I (h.ev S σ H Φ A F G st out ho Q q)⟩, ev_tOf⟩
theorem DTs.nf {es : List Expr} (h : ∃ t, DTs X W es t ft) : DTs X W es (tOfT X.K W ft) ft := by
  obtain ⟨t, h⟩ := h
  exact ⟨⟨fun pins s σ H Q I ⟨S, Φ, A, F, G, out, st, ho, q⟩ => h.pe.run pins s σ H Q I (h.ev S σ H Φ A F G st out ho Q q)⟩, ev_tOfT⟩
theorem de_comp (hc : X.calm = true) (hN : X.N.Nodup) (hi : DI X W tge iter wi fi) (ok : BlkOk X.N X.env.scope scope own)
    (hg : ∀ (s : Shared) (H : Hp) (C : Addr) (cl : List (Str × Addr)) (fp : List Addr), DG (X.blk s H scope (compEnvC scope cl C X.env) fp) tge g tg)
    (ht : ∀ (s : Shared) (H : Hp) (C : Addr) (cl : List (Str × Addr)) (fp : List Addr), ∃ tt, DTs (X.blk s H scope (compEnvC scope cl C X.env) fp) W0 ifs tt ft)
    (he : ∀ (s : Shared) (H : Hp) (C : Addr) (cl : List (Str × Addr)) (fp : List Addr), ∃ te, DE (X.blk s H scope (compEnvC scope cl C X.env) fp) W0 elt te fe)
    (hv : ∀ i ∈ tg.sl, i ∈ own.map (·.2) := by decide) (hs : ∀ x, foldedSetIterable iter X.env x = pure x := by intro _; rfl) :
    DE X W (.ListComp elt [⟨tge, iter, ifs, 0⟩] scope pos) (tLc wi g (tOfT X.K W0 ft) (tOf X.K W0 fe) (own.map (·.2))) (fComp tg fi ft fe (own.map (·.2))) :=
  ⟨pe_lc hc hN hi.pi ok (fun s H C cl fp => (hg s H C cl fp).pg) (fun s H C cl fp => (DTs.nf (ht s H C cl fp)).pe) (fun s H C cl fp => (DE.nf (he s H C cl fp)).pe) hs,
   ev_comp hi.ev (hg X.s_0 X.H_0 0 [] []).ev ev_tOfT ev_tOf hv⟩
theorem ds_setComp {y : Str} {i : Nat} (hc : X.calm = true) (hN : X.N.Nodup) (hi : DI X W tge iter wi fi) (ok : BlkOk X.N X.env.scope scope own)
    (hg : ∀ (s : Shared) (H : Hp) (C : Addr) (cl : List (Str × Addr)) (fp : List Addr), DG (X.blk s H scope (compEnvC scope cl C X.env) fp) tge g tg)
    (ht : ∀ (s : Shared) (H : Hp) (C : Addr) (cl : List (Str × Addr)) (fp : List Addr), ∃ tt, DTs (X.blk s H scope (compEnvC scope cl C X.env) fp) W0 ifs tt ft)
    (he : ∀ (s : Shared) (H : Hp) (C : Addr) (cl : List (Str × Addr)) (fp : List Addr), ∃ te, DE (X.blk s H scope (compEnvC scope cl C X.env) fp) W0 elt te fe)
    (hy : X.N[i]? = some y := by rfl) (hyl : X.env.scope.names.lookup y = some .local := by rfl)
    (hsw : swapsWith (.ListComp elt [⟨tge, iter, ifs, 0⟩] scope pos) (some (.Name y py)) spos.line X.env = pure true := by rfl)
    (hv : ∀ i ∈ tg.sl, i ∈ own.map (·.2) := by decide) (hs : ∀ x, foldedSetIterable iter X.env x = pure x := by intro _; rfl) :
    DS X W (.Assign [.Name y py] (.ListComp elt [⟨tge, iter, ifs, 0⟩] scope pos) spos) (tAsg (tLc wi g (tOfT X.K W0 ft) (tOf X.K W0 fe) (own.map (·.2))) (gName i)) (fSet i (fComp tg fi ft fe (own.map (·.2)))) :=
  ⟨ps_setLc hc hN hy hyl hsw hi.pi ok (fun s H C cl fp => (hg s H C cl fp).pg) (fun s H C cl fp => (DTs.nf (ht s H C cl fp)).pe) (fun s H C cl fp => (DE.nf (he s H C cl fp)).pe) hs,
   ev_set (ev_comp hi.ev (hg X.s_0 X.H_0 0 [] []).ev ev_tOfT ev_tOf hv)⟩
end
end L3

namespace L3
open PySem PySem.Spec PyProof.Rows L2

/-! ### owned nodes changed where they stand -/
section
variable {K : PySem.W.Frag} {W : WX} {S S' : Sto} {σ : Sl} {H Φ : Hp} {A F G T : List Addr} {v : V}
/-- slot i with the part at p anew -/
def Sto.putp (S : Sto) (i : Nat) (p : List Nat) (y : SV) : Option Sto := match S.ρ[i]? with
  | some (some x0) => some { S with ρ := S.ρ.set i (some (x0.putp p y)) }
  | _ => none
theorem mut_slot {i : Nat} {p : List Nat} {n : Nd} {xs : List SV} (st : Stands K S σ H Φ A F G) (e : S.sub i p = some (.node n xs)) (rv : RV K Φ H A S σ v (.bor i p) T) :
    ∃ a vs Fx, v = .ref a ∧ H a = some (n.ho vs) ∧ n.fits vs.length ∧ RSs K Φ H A vs xs Fx ∧ (∀ b ∈ a :: Fx, b ∈ F) ∧ (a :: Fx).Nodup ∧
      ∀ {n' : Nd} {vs' : List V} {xs' : List SV} {T' U' : List Addr} {S' : Sto}, (T' ++ (F ++ G)).Nodup → (∀ b ∈ T', H b ≠ none) → n'.fits vs'.length → RSs K Φ (upd H a (n'.ho vs')) A vs' xs' U' → (∀ b ∈ U', b ∈ Fx ∨ b ∈ T') → U'.Nodup →
        S.putp i p (.node n' xs') = some S' →
        ∃ F', Stands K S' σ (upd H a (n'.ho vs')) Φ A F' G ∧ Run (T' ++ F) G H Φ A F' G (upd H a (n'.ho vs')) Φ A := by
  obtain ⟨x0, e0, e1⟩ := sub_some e
  obtain ⟨rfl, v0, es, hp, hat⟩ := rv
  obtain ⟨v', F1, Fi, F2, e3, e4, q, up⟩ := st.ro.at e0
  rw [es] at e3; cases e3
  obtain ⟨u, E1, Ex, E2, a1, a2, a3, _, a5⟩ := RS.sub q e1
  have hu : u = v := a1.inj (hat _ e)
  subst hu
  cases a3 with
  | @node a _ vs _ Fx ea f pa qs =>
    subst a2 e4
    refine ⟨a, vs, Fx, rfl, ea, f, qs, fun b hb => by simp only [List.mem_append, List.mem_cons] at hb ⊢; grind, ?_, fun {n' vs' xs' T' U' S'} nd hT fit rs' hU ndU eS => ?_⟩
    · have := st.nd
      simp only [List.nodup_append, List.mem_append, List.nodup_cons, List.mem_cons] at this ⊢; grind
    · unfold Sto.putp at eS
      rw [e0] at eS
      cases eS
      have ndF := st.nd
      have nea : ∀ b, b ∈ (F1 ++ (E1 ++ E2) ++ F2) ++ G → b ≠ a := fun b hb z => by
        subst z
        simp only [List.nodup_append, List.mem_append, List.nodup_cons, List.mem_cons] at ndF hb; grind
      have same : ∀ b, b ∈ (F1 ++ (E1 ++ E2) ++ F2) ++ G → upd H a (n'.ho vs') b = H b := fun b hb => upd_ne (nea b hb)
      have node' : RS K Φ (upd H a (n'.ho vs')) A (.ref a) (.node n' xs') (a :: U') := .node upd_same fit pa rs'
      have r0 := a5 (Φ' := Φ) (H' := upd H a (n'.ho vs')) (A' := A) (Same.refl _) Pfx.refl (fun b hb => same b (by simp only [List.mem_append] at hb ⊢; grind)) (fun b hb => (RS.there q b (by simp only [List.mem_append] at hb ⊢; grind)).2) node'
      have r1 := (up (Φ' := Φ) (H' := upd H a (n'.ho vs')) (A' := A) (Same.refl _) Pfx.refl (fun b hb => same b (by simp only [List.mem_append] at hb ⊢; grind)) (fun b hb => (st.ro.there b (by simp only [List.mem_append] at hb ⊢; grind)).2)).1 r0
      have eσ : σ.set i (some v0) = σ := by
        obtain ⟨hk, ev⟩ := List.getElem?_eq_some_iff.mp es
        rw [← ev]; exact List.set_getElem_self hk
      rw [eσ] at r1
      have leΦ : Same Φ (upd H a (n'.ho vs')) := fun b o eb => by
        have hb : b ≠ a := fun z => by subst z; rw [pa] at eb; cases eb
        rw [upd_ne hb]; exact st.le _ _ eb
      refine ⟨F1 ++ ((E1 ++ ((a :: U') ++ E2)) ++ F2), ⟨leΦ, r1, st.rc.frame (Same.refl _) Pfx.refl (fun b hb => same b (by simp [hb])) (fun b hb => (st.rc.there b hb).2), ?_⟩, ⟨fun b o eb hf hg => ?_, Same.refl _, fun b o eb => .inl eb, fun b hb => ?_, fun b hb => ?_, Pfx.refl⟩⟩
      · have hU' : ∀ b ∈ U', b ∉ (F1 ++ (E1 ++ E2) ++ F2) ++ G ∧ b ≠ a := fun b hb => by
          rcases hU b hb with h | h
          · simp only [List.nodup_append, List.mem_append, List.nodup_cons, List.mem_cons] at ndF ⊢; grind
          · simp only [List.nodup_append, List.mem_append, List.nodup_cons, List.mem_cons] at nd ⊢; grind
        simp only [List.nodup_append, List.mem_append, List.nodup_cons, List.mem_cons] at ndF hU' ⊢; grind
      · have hb : b ≠ a := fun z => by subst z; exact hf (by simp)
        rw [upd_ne hb]; exact eb
      · rcases hb with hb | hb
        · simp only [List.mem_append, List.mem_cons] at hb ⊢
          grind
        · exact .inr (.inl hb)
      · by_cases z : b = a
        · subst z; rw [upd_same]; simp
        · rw [upd_ne z]; exact hb
/-- a cell changed -/
def Sto.cellp (S : Sto) (k : Nat) (y : SV) : Sto := { S with μ := S.μ.set k y }
theorem mut_cell {k : Nat} {n : Nd} {xs : List SV} {U : List Addr} (st : Stands K S σ H Φ A F G) (e : S.μ[k]? = some (.node n xs)) (rv : RS K Φ H A v (.cell k) U) :
    ∃ a vs Fx, v = .ref a ∧ H a = some (n.ho vs) ∧ n.fits vs.length ∧ RSs K Φ H A vs xs Fx ∧ (∀ b ∈ a :: Fx, b ∈ G) ∧ (a :: Fx).Nodup ∧
      ∀ {n' : Nd} {vs' : List V} {xs' : List SV} {T' U' : List Addr}, (T' ++ (F ++ G)).Nodup → (∀ b ∈ T', H b ≠ none) → n'.fits vs'.length → RSs K Φ (upd H a (n'.ho vs')) A vs' xs' U' → (∀ b ∈ U', b ∈ Fx ∨ b ∈ T') → U'.Nodup →
        ∃ G', Stands K (S.cellp k (.node n' xs')) σ (upd H a (n'.ho vs')) Φ A F G' ∧ Run (T' ++ F) G H Φ A F G' (upd H a (n'.ho vs')) Φ A := by
  cases rv with
  | @cell _ a hc =>
    obtain ⟨a', F1, Fi, F2, e1, e2, q, up⟩ := st.rc.at e
    rw [hc] at e1
    have ea' : a = a' := Option.some.inj e1
    subst ea'
    cases q with
    | @node _ _ vs _ _ ea f pa qs =>
      subst e2
      have ndF := st.nd
      refine ⟨a, vs, Fi, rfl, ea, f, qs, fun b hb => by simp only [List.mem_append, List.mem_cons] at hb ⊢; grind, ?_, fun {n' vs' xs' T' U'} nd hT fit rs' hU ndU => ?_⟩
      · simp only [List.nodup_append, List.mem_append, List.nodup_cons, List.mem_cons] at ndF ⊢; grind
      · have nea : ∀ b, b ∈ F ++ (F1 ++ F2) → b ≠ a := fun b hb z => by
          subst z
          simp only [List.nodup_append, List.mem_append, List.nodup_cons, List.mem_cons] at ndF hb; grind
        have same : ∀ b, b ∈ F ++ (F1 ++ F2) → upd H a (n'.ho vs') b = H b := fun b hb => upd_ne (nea b hb)
        have node' : RS K Φ (upd H a (n'.ho vs')) A (.ref a) (.node n' xs') (a :: U') := .node upd_same fit pa rs'
        have r1 := up (Φ' := Φ) (H' := upd H a (n'.ho vs')) (A' := A) (Same.refl _) Pfx.refl (fun b hb => same b (by simp only [List.mem_append] at hb ⊢; grind)) (fun b hb => (st.rc.there b (by simp only [List.mem_append] at hb ⊢; grind)).2) node'
        have leΦ : Same Φ (upd H a (n'.ho vs')) := fun b o eb => by
          have hb : b ≠ a := fun z => by subst z; rw [pa] at eb; cases eb
          rw [upd_ne hb]; exact st.le _ _ eb
        refine ⟨F1 ++ ((a :: U') ++ F2), ⟨leΦ, st.ro.frame (Same.refl _) Pfx.refl (fun b hb => same b (by simp [hb])) (fun b hb => (st.ro.there b hb).2), r1, ?_⟩, ⟨fun b o eb hf hg => ?_, Same.refl _, fun b o eb => .inl eb, fun b hb => ?_, fun b hb => ?_, Pfx.refl⟩⟩
        · have hU' : ∀ b ∈ U', b ∉ F ++ (F1 ++ F2) ∧ b ≠ a := fun b hb => by
            rcases hU b hb with h | h
            · simp only [List.nodup_append, List.mem_append, List.nodup_cons, List.mem_cons] at ndF ⊢; grind
            · simp only [List.nodup_append, List.mem_append, List.nodup_cons, List.mem_cons] at nd ⊢; grind
          simp only [List.nodup_append, List.mem_append, List.nodup_cons, List.mem_cons] at ndF hU' ⊢; grind
        · have hb : b ≠ a := fun z => by subst z; exact hg (by simp)
          rw [upd_ne hb]; exact eb
        · rcases hb with hb | hb
          · exact .inl (List.mem_append_right _ hb)
          · simp only [List.mem_append, List.mem_cons] at hb ⊢
            grind
        · by_cases z : b = a
          · subst z; rw [upd_same]; simp
          · rw [upd_ne z]; exact hb
end

/-! ### x.append(e) -/
def pushAt (ro : R) (x : SV) (S : Sto) : Option Sto := match ro with
  | .bor i p => match S.sub i p with
    | some (.node .lst xs) => if xs.length < 1000000 then S.putp i p (.own (xs ++ [x])) else none
    | _ => none
  | _ => none
def fAppend (fo fe : FE) : FS := bindS fo fun ro S1 => match ro.sv S1 with
  | some (.node .lst _) => bindS fe (fun re S2 => match re.kid S2 with
    | some (x, S3) => (pushAt ro x S3).map SO.nx
    | none => none) S1
  | _ => none
theorem ev_append {K : PySem.W.Frag} {W : WX} {to te : TE} {fo fe : FE} (ho : EV K W to fo) (he : EV K W te fe) :
    SEV K W (fun D σ H => to σ H fun x H1 => tyV K "list" x H1 ∧ te σ H1 fun y H2 => rAppend x [y] H2 fun _ H3 => D.nx σ H3) (fAppend fo fe) := fun S σ H Φ A F G st out h D q => by
  refine runS (t := to) ho st h q fun ro S1 v H1 Φ1 A1 T F1 G1 sp st1 rv nd h1 => ?_
  cases ex : ro.sv S1 with
  | none => rw [ex] at h1; cases h1
  | some x =>
    rw [ex] at h1
    cases x with
    | dat d => cases h1
    | cell c => cases h1
    | node n xs =>
      cases n <;> try cases h1
      obtain ⟨U, rs, _⟩ := rv.rs st1 ex
      have hty : tyV K "list" v H1 := by
        cases rs with
        | node ea f pa qs => exact .inl ⟨rfl, _, .inl (.inl ea)⟩
      refine ⟨hty, ?_⟩
      have h1 : bindS fe (fun re S2 => match re.kid S2 with
        | some (x, S3) => (pushAt ro x S3).map SO.nx
        | none => none) S1 = some out := h1
      unfold bindS at h1
      cases e2 : fe S1 with
      | none => rw [e2] at h1; cases h1
      | some o2 =>
        rw [e2] at h1
        have q1 := q.at sp.drop.run
        cases o2 with
        | exc x2 S2 => cases h1; exact he S1 σ H1 Φ1 A1 F1 G1 st1 _ e2 _ (XS.xp (σ := σ) q1)
        | ok re S2 =>
          refine he S1 σ H1 Φ1 A1 F1 G1 st1 _ e2 _ fun y H2 Φ2 A2 T2 F2 G2 sp2 st2 rv2 nd2 fz2 => ?_
          dsimp only at h1
          cases ek : re.kid S2 with
          | none => rw [ek] at h1; cases h1
          | some z =>
            obtain ⟨x3, S3⟩ := z
            rw [ek] at h1
            dsimp only at h1
            have ro2 := RV.step st1 rv nd sp2.drop fz2
            have ndo2 : (T ++ (F2 ++ G2)).Nodup := by
              have := sp2.apart (fun b hb => (rv.there b hb).1) nd (by rw [List.append_assoc]; exact nd2)
              simp only [List.nodup_append, List.mem_append] at this ⊢; grind
            obtain ⟨Φ3, F3, sp3, st3, rs3, fz3⟩ := kid_ok st2 rv2 nd2 ek
            have ro3 := RV.step st2 ro2 ndo2 sp3 fz3
            have nd3 : (T2 ++ (F3 ++ G2)).Nodup := sp3.apart (fun b hb => (rv2.there b hb).1) nd2 st3.nd
            cases ep : pushAt ro x3 S3 with
            | none => rw [ep] at h1; cases h1
            | some S4 =>
              rw [ep] at h1; cases h1
              unfold pushAt at ep
              cases ro with
              | val z => cases ep
              | bor i p =>
                dsimp only at ep
                cases es : S3.sub i p with
                | none => rw [es] at ep; cases ep
                | some z =>
                  rw [es] at ep
                  cases z with
                  | dat d => cases ep
                  | cell c => cases ep
                  | node n ys =>
                    cases n <;> try cases ep
                    dsimp only at ep
                    by_cases hl : ys.length < 1000000
                    · rw [if_pos hl] at ep
                      obtain ⟨a, vs, Fx, rfl, ea, f, qs, hF, ndx, up⟩ := mut_slot st3 es ro3
                      have hl' : vs.length < sizeLine := by rw [qs.length]; exact Nat.lt_of_lt_of_le hl (by rw [sizeLine_eq]; decide)
                      have nea : ∀ b, b ∈ Fx ++ T2 → b ≠ a := fun b hb z => by
                        subst z
                        rcases List.mem_append.mp hb with hb | hb
                        · exact (List.nodup_cons.mp ndx).1 hb
                        · exact (List.nodup_append.mp nd3).2.2 b hb b (List.mem_append_left _ (hF b (List.mem_cons_self ..))) rfl
                      have rs' : RSs K Φ3 (upd H2 a (Nd.lst.ho (vs ++ [y]))) A2 (vs ++ [y]) (ys ++ [x3]) (Fx ++ T2) :=
                        rss_snoc (qs.frame (Same.refl _) Pfx.refl (fun b hb => upd_ne (nea b (by simp [hb]))) (fun b hb => (qs.there b hb).2)) (rs3.frame (Same.refl _) Pfx.refl (fun b hb => upd_ne (nea b (by simp [hb]))) (fun b hb => (rs3.there b hb).2))
                      obtain ⟨F4, st4, rn4⟩ := up (n' := .lst) (T' := T2) nd3 (fun b hb => (rs3.there b hb).1) ⟨trivial, trivial⟩ rs' (fun b hb => List.mem_append.mp hb) (by
                        have h1 := List.nodup_cons.mp ndx
                        refine List.nodup_append.mpr ⟨h1.2, (List.nodup_append.mp nd3).1, fun a ha b hb e => ?_⟩
                        subst e
                        exact (List.nodup_append.mp nd3).2.2 a hb a (List.mem_append_left _ (hF a (List.mem_cons_of_mem _ ha))) rfl) ep
                      have s23 : Step F1 G1 H1 Φ1 A1 (T2 ++ F3) G2 H2 Φ3 A2 := Step.trans (T1 := []) sp2 sp3
                      exact ⟨a, vs, y, rfl, rfl, ea, hl', q1 σ _ Φ3 A2 F4 G2 (s23.run.trans rn4) st4⟩
                    · rw [if_neg hl] at ep; cases ep
section
variable {X : Cx} {W : WX} {o e : Expr} {pos apos cpos : Pos} {to te : TE} {fo fe : FE}
theorem ds_append (ho : DE X W o to fo) (he : DE X W e te fe) (hs : swapsWith (.Call (.Attribute o "append" apos) [e] [] cpos) none pos.line X.env = pure false := by rfl)
    (hbase : attributeBase o "append" X.env (eval o X.env) = eval o X.env := by rfl)
    (hfew : ((backTo cpos (starEach [e] X.env)).all (fun x => !x.1) && (backToKw cpos (keywordEach [] X.env)).all (fun x => x.1.isSome)
      && decide ([e].length + ([] : List Keyword).length + (if ([] : List Keyword).isEmpty then 0 else 1) < 30)) = true := by rfl)
    (hline : (apos.endLine == cpos.line) = true := by rfl) (hst : starEach [e] X.env = (false, eval e X.env) :: starEach [] X.env := by rfl) (hplain : (backTo cpos (starEach [] X.env)).any (·.1) = false := by rfl) :
    DS X W (.Expr (.Call (.Attribute o "append" apos) [e] [] cpos) pos) (tDrop (tBM X.K "list" rAppend to (tCons te tNil))) (fAppend fo fe) :=
  ⟨ps_expr (pe_bm PySem.F.plainAttrs_list PySem.F.slot_list_append PySem.F.type_list_append mt_append ho.pe (pa_cons he.pe pa_nil hst) hbase hfew hline hst hplain) hs, ev_append ho.ev he.ev⟩
end

/-! ### x[i] = e: an owned list, an owned dict, a cell -/
/-- a key's value anew, or a key more -/
def putKs {κ α : Type} [DecidableEq κ] (k : κ) (x : α) : List κ → List α → List κ × List α
  | j :: ks, y :: xs => if j = k then (j :: ks, x :: xs) else (j :: (putKs k x ks xs).1, y :: (putKs k x ks xs).2)
  | _, _ => ([k], [x])
def putNd (n : Nd) (xs : List SV) (k : D) (x : SV) : Option (Nd × List SV) := match n with
  | .lst => (intOf k).bind fun i => (ixN xs.length i).map fun j => (.lst, xs.set j x)
  | .dK ks => (k.key).bind fun k => if ks.length < 1000000 then some (.dK (putKs k x ks xs).1, (putKs k x ks xs).2) else none
  | _ => none
def storeAt (ro : R) (k : D) (x : SV) (S : Sto) : Option Sto := match ro.sv S with
  | some (.cell c) => match S.μ[c]? with
    | some (.node n xs) => (putNd n xs k x).map fun z => S.cellp c (.node z.1 z.2)
    | _ => none
  | some (.node n xs) => match ro with
    | .bor i p => (putNd n xs k x).bind fun z => S.putp i p (.node z.1 z.2)
    | .val _ => none
  | _ => none
def fStore (fo fi fe : FE) : FS := bindS fe fun re => bindS fo fun ro => bindS fi fun ri S => match re.kid S with
  | some (x, S1) => (ri.peek S1).bind fun k => (storeAt ro k x S1).map SO.nx
  | none => none
def rStore : V → V → V → Hp → (Hp → Prop) → Prop := fun o i v H Q => rSetL o i v H Q ∨ ∃ a H', o = .ref a ∧ DPut H a i v H' ∧ Q H'
theorem set_store {X : Cx} (hu : X.A.units + 1 < cLine) : PSet X rStore := by
  intro pins s σ H o i v ov iv u Q I ro ri rv h
  rcases h with h | ⟨a, H', rfl, dp, q⟩
  · exact set_list pins s σ H o i v ov iv u Q I ro ri rv h
  · cases ro
    exact d_setItem hu I dp ri rv fun s' I' => ⟨H', I', q⟩
theorem rss_set {K : PySem.W.Frag} {Φ H : Hp} {A : List Addr} {vs : List V} {xs : List SV} {U T : List Addr} {j : Nat} {v : V} {x : SV} (h : RSs K Φ H A vs xs U) (hj : j < xs.length) (q : RS K Φ H A v x T) (ndU : U.Nodup) (nd : ∀ b ∈ T, b ∉ U) (ndT : T.Nodup) :
    ∃ U', RSs K Φ H A (vs.set j v) (xs.set j x) U' ∧ (∀ b ∈ U', b ∈ U ∨ b ∈ T) ∧ U'.Nodup := by
  obtain ⟨w, E1, Ei, E2, e1, e2, q0, up⟩ := RSs.at h (List.getElem?_eq_getElem hj)
  subst e2
  refine ⟨E1 ++ (T ++ E2), up (Same.refl _) Pfx.refl (fun _ _ => rfl) (fun b hb => (h.there b (by simp only [List.mem_append] at hb ⊢; grind)).2) q, fun b hb => by simp only [List.mem_append] at hb ⊢; grind, ?_⟩
  simp only [List.nodup_append, List.mem_append] at ndU nd ⊢; grind
theorem putKs_keys {κ α β : Type} [DecidableEq κ] {k : κ} {x : α} {y : β} : ∀ {ks : List κ} {xs : List α} {ys : List β}, ks.length = xs.length → ks.length = ys.length → (putKs k x ks xs).1 = (putKs k y ks ys).1
  | [], [], [], _, _ => rfl
  | j :: ks, a :: xs, b :: ys, h1, h2 => by
    rw [putKs, putKs]
    by_cases e : j = k
    · rw [if_pos e, if_pos e]
    · rw [if_neg e, if_neg e, putKs_keys (ks := ks) (xs := xs) (ys := ys) (by simpa using h1) (by simpa using h2)]
  | [], _ :: _, _, h, _ => by simp at h
  | [], [], _ :: _, _, h => by simp at h
  | _ :: _, [], _, h, _ => by simp at h
  | _ :: _, _ :: _, [], _, h => by simp at h
theorem putKs_mem {κ α : Type} [DecidableEq κ] {k : κ} {x : α} : ∀ {ks : List κ} {xs : List α} {j : κ}, ks.length = xs.length → j ∈ (putKs k x ks xs).1 → j ∈ ks ∨ j = k
  | [], [], j, _, h => by simp [putKs] at h; exact .inr h
  | i :: ks, a :: xs, j, hl, h => by
    rw [putKs] at h
    by_cases e : i = k
    · rw [if_pos e] at h; exact .inl h
    · rw [if_neg e] at h
      rcases List.mem_cons.mp h with h | h
      · exact .inl (by simp [h])
      · exact (putKs_mem (by simpa using hl) h).imp_left (List.mem_cons_of_mem _)
  | [], _ :: _, _, h, _ => by simp at h
  | _ :: _, [], _, h, _ => by simp at h
theorem putKs_nodup {κ α : Type} [DecidableEq κ] {k : κ} {x : α} : ∀ {ks : List κ} {xs : List α}, ks.length = xs.length → ks.Nodup → (putKs k x ks xs).1.Nodup
  | [], [], _, _ => by simp [putKs]
  | i :: ks, a :: xs, hl, h => by
    rw [putKs]
    by_cases e : i = k
    · rw [if_pos e]; exact h
    · rw [if_neg e]
      refine List.nodup_cons.mpr ⟨fun hm => ?_, putKs_nodup (by simpa using hl) (List.nodup_cons.mp h).2⟩
      rcases putKs_mem (by simpa using hl) hm with hm | hm
      · exact (List.nodup_cons.mp h).1 hm
      · exact e hm
  | [], _ :: _, h, _ => by simp at h
  | _ :: _, [], h, _ => by simp at h
theorem putKs_len {κ α : Type} [DecidableEq κ] {k : κ} {x : α} : ∀ {ks : List κ} {xs : List α}, ks.length = xs.length → (putKs k x ks xs).1.length = (putKs k x ks xs).2.length
  | [], [], _ => rfl
  | i :: ks, a :: xs, hl => by
    rw [putKs]
    by_cases e : i = k
    · rw [if_pos e]; exact hl
    · rw [if_neg e]; exact congrArg (· + 1) (putKs_len (by simpa using hl))
  | [], _ :: _, h => by simp at h
  | _ :: _, [], h => by simp at h
theorem zip_none {κ : Type} [DecidableEq κ] {ks : List κ} {vs : List V} {k : κ} (h : k ∉ ks) : (ks.zip vs).map (fun kv => if kv.1 = k then (kv.1, (V.non : V)) else kv) = ks.zip vs := by
  conv => rhs; rw [← List.map_id (ks.zip vs)]
  apply List.map_congr_left
  intro p hp
  have : p.1 ∈ ks := (List.of_mem_zip hp).1
  rw [if_neg (fun z => h (by rw [← z]; exact this))]; rfl
theorem zip_put {κ : Type} [DecidableEq κ] {k : κ} {v : V} : ∀ {ks : List κ} {vs : List V}, ks.length = vs.length → ks.Nodup → putK (ks.zip vs) k v = (putKs k v ks vs).1.zip (putKs k v ks vs).2
  | [], [], _, _ => rfl
  | j :: ks, w :: vs, hl, nd => by
    have ih := zip_put (k := k) (v := v) (ks := ks) (vs := vs) (by simpa using hl) (List.nodup_cons.mp nd).2
    rw [List.zip_cons_cons, putKs]
    by_cases e : j = k
    · subst e
      rw [if_pos rfl, List.zip_cons_cons]
      unfold putK
      rw [if_pos (by simp), List.map_cons, if_pos rfl]
      congr 1
      conv => rhs; rw [← List.map_id (ks.zip vs)]
      apply List.map_congr_left
      intro p hp
      have : p.1 ∈ ks := (List.of_mem_zip hp).1
      rw [if_neg (fun z => (List.nodup_cons.mp nd).1 (by rw [← z]; exact this))]; rfl
    · rw [if_neg e, List.zip_cons_cons, ← ih]
      unfold putK
      have e1 : (((j, w) :: ks.zip vs).any fun kv => decide (kv.1 = k)) = (ks.zip vs).any fun kv => decide (kv.1 = k) := by simp [e]
      rw [e1]
      split
      · rw [List.map_cons, if_neg e]
      · rfl
  | [], _ :: _, h, _ => by simp at h
  | _ :: _, [], h, _ => by simp at h
/-- the values behind a put: one of them new -/
theorem rss_put {K : PySem.W.Frag} {Φ H : Hp} {A : List Addr} {κ : Type} [DecidableEq κ] {k : κ} {v : V} {x : SV} {T : List Addr} (q : RS K Φ H A v x T) (ndT : T.Nodup) : ∀ {ks : List κ} {vs : List V} {xs : List SV} {U : List Addr}, ks.length = vs.length → RSs K Φ H A vs xs U → U.Nodup → (∀ b ∈ T, b ∉ U) →
    ∃ U', RSs K Φ H A (putKs k v ks vs).2 (putKs k x ks xs).2 U' ∧ (∀ b ∈ U', b ∈ U ∨ b ∈ T) ∧ U'.Nodup := by
  intro ks
  induction ks with
  | nil =>
    intro vs xs U hl h ndU nd
    cases h with
    | nil => exact ⟨T ++ [], .cons q .nil, fun b hb => .inr (by simpa using hb), by simpa using ndT⟩
    | cons => simp at hl
  | cons j ks ih =>
    intro vs xs U hl h ndU nd
    cases h with
    | nil => simp at hl
    | cons r rs =>
      rename_i w vs y xs F0 G0
      rw [putKs, putKs]
      by_cases e : j = k
      · rw [if_pos e, if_pos e]
        refine ⟨T ++ G0, .cons q rs, fun b hb => by simp only [List.mem_append] at hb ⊢; grind, ?_⟩
        simp only [List.nodup_append, List.mem_append] at ndU nd ⊢; grind
      · rw [if_neg e, if_neg e]
        obtain ⟨U', r2, h2, n2⟩ := ih (by simpa using hl) rs (List.nodup_append.mp ndU).2.1 (fun b hb z => nd b hb (List.mem_append_right _ z))
        refine ⟨F0 ++ U', .cons r r2, fun b hb => ?_, ?_⟩
        · rcases List.mem_append.mp hb with hb | hb
          · exact .inl (List.mem_append_left _ hb)
          · exact (h2 b hb).imp_left (List.mem_append_right _)
        · simp only [List.nodup_append, List.mem_append] at ndU nd ⊢; grind
end L3

namespace L3
open PySem PySem.Spec PyProof.Rows L2

section
variable {K : PySem.W.Frag} {W : WX} {S S' : Sto} {σ : Sl} {H Φ : Hp} {A F G T Fx : List Addr} {v w iv : V}
theorem put_nd {a : Addr} {n n' : Nd} {vs : List V} {xs xs' : List SV} {x : SV} {kd : D} (ea : H a = some (n.ho vs)) (f : n.fits vs.length) (qs : RSs K Φ H A vs xs Fx) (ri : Rp K H iv kd) (q : RS K Φ H A v x T)
    (ndx : (a :: Fx).Nodup) (ndT : T.Nodup) (nd : ∀ b ∈ T, b ∉ a :: Fx) (e : putNd n xs kd x = some (n', xs')) :
    ∃ vs' U', (∀ Q : Hp → Prop, Q (upd H a (n'.ho vs')) → rStore (.ref a) iv v H Q) ∧ n'.fits vs'.length ∧ RSs K Φ (upd H a (n'.ho vs')) A vs' xs' U' ∧ (∀ b ∈ U', b ∈ Fx ∨ b ∈ T) ∧ U'.Nodup := by
  have nea : ∀ {ho : HO} (b : Addr), (b ∈ Fx ∨ b ∈ T) → upd H a ho b = H b := fun b hb => upd_ne fun z => by
    subst z
    rcases hb with hb | hb
    · exact (List.nodup_cons.mp ndx).1 hb
    · exact nd b hb (List.mem_cons_self ..)
  have fr : ∀ {ho : HO} {ys : List V} {zs : List SV} {U : List Addr}, RSs K Φ H A ys zs U → (∀ b ∈ U, b ∈ Fx ∨ b ∈ T) → RSs K Φ (upd H a ho) A ys zs U := fun r h => r.frame (Same.refl _) Pfx.refl (fun b hb => nea b (h b hb)) fun b hb => (r.there b hb).2
  cases n with
  | lst =>
    cases ei : intOf kd with
    | none => simp only [putNd, ei] at e; cases e
    | some i =>
      have := intOf_some ei
      subst this
      simp only [putNd, ei] at e
      cases ej : ixN xs.length i with
      | none => rw [Option.bind_some, ej] at e; cases e
      | some j =>
        rw [Option.bind_some, ej] at e; cases e
        have hj : j < xs.length := (ixN_seq ej).2.1
        obtain ⟨U', r1, h1, n1⟩ := rss_set qs hj q (List.nodup_cons.mp ndx).2 (fun b hb z => nd b hb (List.mem_cons_of_mem _ z)) ndT
        cases ri
        exact ⟨vs.set j v, U', fun Q z => .inl ⟨a, vs, i, j, rfl, rfl, ea, by rw [qs.length]; exact ej, z⟩, ⟨trivial, trivial⟩, fr r1 h1, h1, n1⟩
  | dK ks =>
    cases ek : kd.key with
    | none => simp only [putNd, ek] at e; cases e
    | some k =>
      simp only [putNd, ek, Option.bind_some] at e
      by_cases hl : ks.length < 1000000
      · rw [if_pos hl] at e; cases e
        have eiv := key_rp ri ek
        subst eiv
        have fl : ks.length = vs.length := f.1
        obtain ⟨U', r1, h1, n1⟩ := rss_put (k := k) q ndT fl qs (List.nodup_cons.mp ndx).2 (fun b hb z => nd b hb (List.mem_cons_of_mem _ z))
        have eks : (putKs k v ks vs).1 = (putKs k x ks xs).1 := putKs_keys fl (by rw [fl, qs.length])
        have eho : (Nd.dK (putKs k x ks xs).1).ho (putKs k v ks vs).2 = .dK (putK (ks.zip vs) k v) := by
          rw [zip_put fl f.2, ← eks]; rfl
        refine ⟨(putKs k v ks vs).2, U', fun Q z => .inr ⟨a, _, rfl, DPut.k ea ?_ , by rw [eho] at z; exact z⟩, ⟨?_, ?_⟩, fr r1 h1, h1, n1⟩
        · rw [List.length_zip, ← fl, Nat.min_self]; exact Nat.lt_of_lt_of_le hl (by rw [sizeLine_eq]; decide)
        · show (putKs k x ks xs).1.length = _
          rw [← eks]; exact putKs_len fl
        · show (putKs k x ks xs).1.Nodup
          rw [← eks]; exact putKs_nodup fl f.2
      · rw [if_neg hl] at e; cases e
  | dT ks => simp only [putNd] at e; cases e
  | ins C dx ks => simp only [putNd] at e; cases e
theorem runS2 {t : TE} {f : FE} {k : R → FS} {out : SO} {D : Ends} {P : VK} (hf : EV K W t f) (st : Stands K S σ H Φ A F G) (h : bindS f k S = some out) (q : PostS K W F G H Φ A D out)
    (hk : ∀ r S1 v H1 Φ1 A1 T F1 G1, Step F G H Φ A (T ++ F1) G1 H1 Φ1 A1 → Stands K S1 σ H1 Φ1 A1 F1 G1 → RV K Φ1 H1 A1 S1 σ v r T → (T ++ (F1 ++ G1)).Nodup → Frz S S1 → PostS K W F1 G1 H1 Φ1 A1 D out → k r S1 = some out → P v H1) : t σ H P := by
  unfold bindS at h
  cases e : f S with
  | none => rw [e] at h; cases h
  | some o =>
    rw [e] at h
    cases o with
    | ok r S1 => exact hf S σ H Φ A F G st _ e P fun v H' Φ' A' T F' G' sp st' rv nd fz => hk r S1 v H' Φ' A' T F' G' sp st' rv nd fz (q.at sp.drop.run) h
    | exc x S1 => cases h; exact hf S σ H Φ A F G st _ e P (XS.xp q)
theorem RV.nd (h : RV K Φ H A S σ v r T) (nd : (T ++ (F ++ G)).Nodup) {F1 G1 H1 Φ1 A1 U} (sp : Step F G H Φ A (U ++ F1) G1 H1 Φ1 A1) (nd1 : (U ++ (F1 ++ G1)).Nodup) : (T ++ (U ++ (F1 ++ G1))).Nodup := by
  have := sp.apart (fun b hb => (h.there b hb).1) nd (by rw [List.append_assoc]; exact nd1)
  simpa [List.append_assoc] using this
theorem nd_mid {T U V : List Addr} (h : (T ++ (U ++ V)).Nodup) : (T ++ V).Nodup := by
  simp only [List.nodup_append, List.mem_append] at h ⊢; grind
theorem ev_store {to ti te : TE} {fo fi fe : FE} (ho : EV K W to fo) (hi : EV K W ti fi) (he : EV K W te fe) : SEV K W (tAsg te (gSub to ti rStore)) (fStore fo fi fe) := fun S σ H Φ A F G st out h D q => by
  refine runS2 (t := te) he st h q fun re S1 v H1 Φ1 A1 T F1 G1 sp1 st1 rv1 nd1 fz1 q1 h1 => ?_
  refine runS2 (t := to) ho st1 h1 q1 fun ro S2 o H2 Φ2 A2 U F2 G2 sp2 st2 rv2 nd2 fz2 q2 h2 => ?_
  refine runS2 (t := ti) hi st2 h2 q2 fun ri S3 i H3 Φ3 A3 Y F3 G3 sp3 st3 rv3 nd3 fz3 q3 h3 => ?_
  have rv1' := (rv1.step st1 nd1 sp2.drop fz2).step st2 (nd_mid (rv1.nd nd1 sp2 nd2)) sp3.drop fz3
  have nd1' := nd_mid ((rv1.step st1 nd1 sp2.drop fz2).nd (nd_mid (rv1.nd nd1 sp2 nd2)) sp3 nd3)
  have rv2' := rv2.step st2 nd2 sp3.drop fz3
  have nd2' := nd_mid (rv2.nd nd2 sp3 nd3)
  cases ek : re.kid S3 with
  | none => rw [ek] at h3; cases h3
  | some z =>
    obtain ⟨x, S4⟩ := z
    rw [ek] at h3
    dsimp only at h3
    obtain ⟨Φ4, F4, sp4, st4, rs4, fz4⟩ := kid_ok st3 rv1' nd1' ek
    have nd4 := sp4.apart (fun b hb => (rv1'.there b hb).1) nd1' st4.nd
    have ro4 := rv2'.step st3 nd2' sp4 fz4
    have ri4 := rv3.step st3 nd3 sp4 fz4
    cases ei : ri.peek S4 with
    | none => rw [ei] at h3; cases h3
    | some kd =>
      rw [ei, Option.bind_some] at h3
      have rpi := ri4.rp st4 ei
      have q4 := q3.at sp4.run
      cases es : storeAt ro kd x S4 with
      | none => rw [es] at h3; cases h3
      | some S5 =>
        rw [es] at h3; cases h3
        unfold storeAt at es
        cases ex : ro.sv S4 with
        | none => rw [ex] at es; cases es
        | some y =>
          rw [ex] at es
          cases y with
          | dat d => cases es
          | cell c =>
            dsimp only at es
            obtain ⟨U2, rs2, _⟩ := ro4.rs st4 ex
            cases eμ : S4.μ[c]? with
            | none => rw [eμ] at es; cases es
            | some z =>
              rw [eμ] at es
              cases z with
              | dat d => cases es
              | cell c => cases es
              | node n xs =>
                dsimp only at es
                cases ep : putNd n xs kd x with
                | none => rw [ep] at es; cases es
                | some z =>
                  obtain ⟨n', xs'⟩ := z
                  rw [ep] at es; cases es
                  obtain ⟨a, vs, Fx, rfl, ea, f, qs, hF, ndx, up⟩ := mut_cell st4 eμ rs2
                  have ndT := (List.nodup_append.mp nd4).1
                  obtain ⟨vs', U', hs, f', r', hU, ndU⟩ := put_nd ea f qs rpi rs4 ndx ndT (fun b hb z => (List.nodup_append.mp nd4).2.2 b hb b (List.mem_append_right _ (hF b z)) rfl) ep
                  obtain ⟨G', st5, rn5⟩ := up nd4 (fun b hb => (rs4.there b hb).1) f' r' hU ndU
                  refine hs _ (q _ _ _ _ _ _ ?_ st5)
                  have s14 : Step F1 G1 H1 Φ1 A1 F4 G3 H3 Φ4 A3 := (sp2.drop.trans0 sp3.drop).trans0 sp4
                  have s04 : Step F G H Φ A (T ++ F4) G3 H3 Φ4 A3 := Step.trans (T1 := []) sp1 s14
                  exact s04.run.trans rn5
          | node n xs =>
            cases ro with
            | val z => cases es
            | bor j p =>
              dsimp only at es
              cases ep : putNd n xs kd x with
              | none => rw [ep] at es; cases es
              | some z =>
                obtain ⟨n', xs'⟩ := z
                rw [ep, Option.bind_some] at es
                obtain ⟨a, vs, Fx, rfl, ea, f, qs, hF, ndx, up⟩ := mut_slot st4 ex ro4
                have ndT := (List.nodup_append.mp nd4).1
                obtain ⟨vs', U', hs, f', r', hU, ndU⟩ := put_nd ea f qs rpi rs4 ndx ndT (fun b hb z => (List.nodup_append.mp nd4).2.2 b hb b (List.mem_append_left _ (hF b z)) rfl) ep
                obtain ⟨F', st5, rn5⟩ := up nd4 (fun b hb => (rs4.there b hb).1) f' r' hU ndU es
                refine hs _ (q _ _ _ _ _ _ ?_ st5)
                have s14 : Step F1 G1 H1 Φ1 A1 F4 G3 H3 Φ4 A3 := (sp2.drop.trans0 sp3.drop).trans0 sp4
                have s04 : Step F G H Φ A (T ++ F4) G3 H3 Φ4 A3 := Step.trans (T1 := []) sp1 s14
                exact s04.run.trans rn5
end
section
variable {X : Cx} {W : WX} {o i e : Expr} {pos apos : Pos} {to ti te : TE} {fo fi fe : FE}
theorem ds_store (hu : X.A.units + 1 < cLine) (he : DE X W e te fe) (ho : DE X W o to fo) (hi : DE X W i ti fi) (hs : swapsWithSole [.Subscript o i apos] e pos.line X.env = pure false := by rfl) (hw : swappedStores [.Subscript o i apos] e X.env = pure none := by rfl)
    (h1 : (assignEach [.Subscript o i apos] X.env).map (·.2) = [assign (.Subscript o i apos) X.env] := by rfl)
    (ha : ∀ v, assign (.Subscript o i apos) X.env v = (do
      let ov ← holding [v] (eval o X.env)
      let iv ← holding [v, ov] (eval i X.env)
      standAt apos
      holding [v, ov, iv] (setItem ov iv v)
      release [v, ov, iv] []) := by intro _; rfl) :
    DS X W (.Assign [.Subscript o i apos] e pos) (tAsg te (gSub to ti rStore)) (fStore fo fi fe) :=
  ⟨ps_asg he.pe (pg_sub ho.pe hi.pe (set_store hu) ha) hs hw h1, ev_store ho.ev hi.ev he.ev⟩
end
end L3

namespace L3
open PySem PySem.Spec PyProof.Rows L2

/-! ### {k: v, ..} -/
def fPairs : List (FE × FE) → Sto → Option (Out (List (Key × R)))
  | [] => retE []
  | (fk, fv) :: r => bindE fk fun rk S1 => match (rk.peek S1).bind D.key with
    | some k => bindE fv (fun rv => bindE (fPairs r) fun ps => retE ((k, rv) :: ps)) S1
    | none => none
def PostP (K : PySem.W.Frag) (W : WX) (S : Sto) (σ : Sl) (H Φ : Hp) (A F G : List Addr) (Q : List (V × V) → Hp → Prop) : Out (List (Key × R)) → Prop
  | .ok kr S' => ∀ ps H' Φ' A' T F' G', Step F G H Φ A (T ++ F') G' H' Φ' A' → Stands K S' σ H' Φ' A' F' G' → ps.map (·.1) = kr.map (fun x => kV x.1) → RVs K Φ' H' A' S' σ (ps.map (·.2)) (kr.map (·.2)) T → (T ++ (F' ++ G')).Nodup → Frz S S' → Q ps H'
  | .exc e S' => XP K W S σ H Φ A F G e S'
inductive EVPs (K : PySem.W.Frag) (W : WX) : List (TE × TE) → List (FE × FE) → Prop
  | nil : EVPs K W [] []
  | cons {tk tv : TE} {fk fv : FE} {r : List (TE × TE)} {q : List (FE × FE)} : EV K W tk fk → EV K W tv fv → EVPs K W r q → EVPs K W ((tk, tv) :: r) ((fk, fv) :: q)
section
variable {K : PySem.W.Frag} {W : WX}
theorem EVPs.go {trs : List (TE × TE)} {fps : List (FE × FE)} (h : EVPs K W trs fps) : ∀ {S : Sto} {σ : Sl} {H Φ : Hp} {A F G : List Addr}, Stands K S σ H Φ A F G → ∀ {out}, fPairs fps S = some out → ∀ {Q}, PostP K W S σ H Φ A F G Q out → tPairs trs σ H Q := by
  induction h with
  | nil =>
    intro S σ H Φ A F G st out e Q q
    cases e
    exact q [] H Φ A [] F G .refl st rfl .nil (by simpa using st.nd) .refl
  | @cons tk tv fk fv r qq hk hv hr ih =>
    intro S σ H Φ A F G st out e Q q
    have qx : ∀ e S', out = .exc e S' → XP K W S σ H Φ A F G e S' := fun e S' eo => by subst eo; exact q
    refine run1 (t := tk) hk st e qx fun rk S1 x H1 Φ1 A1 T F1 G1 sp st1 rv nd fz h1 => ?_
    cases ek : (rk.peek S1).bind D.key with
    | none => rw [ek] at h1; cases h1
    | some k =>
      rw [ek] at h1
      obtain ⟨d, e1, e2⟩ : ∃ d, rk.peek S1 = some d ∧ d.key = some k := by
        cases e0 : rk.peek S1 with
        | none => rw [e0] at ek; cases ek
        | some d => exact ⟨d, rfl, by rw [e0] at ek; exact ek⟩
      have ex := key_rp (rv.rp st1 e1) e2
      subst ex
      dsimp only at h1
      refine run1 (t := tv) hv st1 h1 (fun e S' eo => (qx e S' eo).at sp fz) fun rw S2 y H2 Φ2 A2 U F2 G2 sp2 st2 rv2 nd2 fz2 h2 => ?_
      unfold bindE at h2
      have sp02 : Step F G H Φ A (U ++ F2) G2 H2 Φ2 A2 := Step.trans (T := []) sp.drop sp2
      cases e3 : fPairs qq S2 with
      | none => rw [e3] at h2; cases h2
      | some o =>
        rw [e3] at h2
        cases o with
        | exc x S3 => cases h2; exact ih st2 e3 ((qx x S3 rfl).at sp02 (fz.trans fz2))
        | ok ps S3 =>
          cases h2
          refine ih st2 e3 fun pv H3 Φ3 A3 Y F3 G3 sp3 st3 ek rvs nd3 fz3 => ?_
          have rv2' := rv2.step st2 nd2 sp3.drop fz3
          have nd4 := rv2.nd nd2 sp3 nd3
          exact q ((kV k, y) :: pv) H3 Φ3 A3 (U ++ Y) F3 G3 (by rw [List.append_assoc]; exact sp02.trans sp3) st3 (by rw [List.map_cons, List.map_cons, ek]) (.cons rv2' rvs) (by simpa [List.append_assoc] using nd4) ((fz.trans fz2).trans fz3)
def fDisp (fps : List (FE × FE)) : FE := bindE (fPairs fps) fun kr S => if (kr.map (·.1)).Nodup ∧ kr.length ≤ 15 then (kids (kr.map (·.2)) S).map fun z => .ok (.val (.node (.dK (kr.map (·.1))) z.1)) z.2 else none
theorem merge_nodup : ∀ {more kvs : List (Key × V)}, ((kvs ++ more).map (·.1)).Nodup → mergeK kvs more = kvs ++ more
  | [], kvs, _ => by rw [List.append_nil]; rfl
  | p :: r, kvs, h => by
    have e : putK kvs p.1 p.2 = kvs ++ [p] := by
      unfold putK
      rw [if_neg]
      intro z
      obtain ⟨q, hq, e⟩ := List.any_eq_true.mp z
      have e : q.1 = p.1 := by simpa using e
      rw [List.map_append] at h
      exact (List.nodup_append.mp h).2.2 q.1 (List.mem_map_of_mem hq) p.1 (List.mem_map_of_mem (List.mem_cons_self ..)) e
    show mergeK (putK kvs p.1 p.2) r = _
    rw [e, merge_nodup (by simpa using h)]
    simp
/-- a new node of its own -/
theorem new_node {S : Sto} {σ : Sl} {H Φ : Hp} {A F G : List Addr} {p : Addr} {n : Nd} {vs : List V} {xs : List SV} {U : List Addr} (st : Stands K S σ H Φ A F G) (q : RSs K Φ H A vs xs U) (nd : (U ++ (F ++ G)).Nodup) (hp : ∀ b ∈ U ++ (F ++ G), b ≠ p) (hΦ : Φ p = none) (fit : n.fits vs.length) :
    Stands K S σ (upd H p (n.ho vs)) Φ A F G ∧ RS K Φ (upd H p (n.ho vs)) A (.ref p) (.node n xs) (p :: U) ∧ ((p :: U) ++ (F ++ G)).Nodup := by
  have same : ∀ b ∈ U ++ (F ++ G), upd H p (n.ho vs) b = H b := fun b hb => upd_ne (hp b hb)
  refine ⟨⟨fun b o e => ?_, st.ro.frame (Same.refl _) Pfx.refl (fun b hb => same b (by simp [hb])) (fun b hb => (st.ro.there b hb).2), st.rc.frame (Same.refl _) Pfx.refl (fun b hb => same b (by simp [hb])) (fun b hb => (st.rc.there b hb).2), st.nd⟩,
    .node upd_same fit hΦ (q.frame (Same.refl _) Pfx.refl (fun b hb => same b (by simp [hb])) fun b hb => (q.there b hb).2), ?_⟩
  · rw [upd_ne (fun z => by subst z; rw [hΦ] at e; cases e)]; exact st.le _ _ e
  · rw [List.cons_append]
    exact List.nodup_cons.mpr ⟨fun hb => hp p hb rfl, nd⟩
theorem ev_disp {trs : List (TE × TE)} {fps : List (FE × FE)} (h : EVPs K W trs fps) : EV K W (tDisp trs) (fDisp fps) := fun S σ H Φ A F G st out ho Q q => by
  intro p hp
  have hΦ : Φ p = none := by
    cases e : Φ p with
    | none => rfl
    | some o => have := st.le _ _ e; rw [hp] at this; cases this
  have no : ∀ b ∈ F ++ G, b ≠ p := fun b hb z => by
    subst z
    rcases List.mem_append.mp hb with hb | hb
    · exact (st.ro.there b hb).1 hp
    · exact (st.rc.there b hb).1 hp
  obtain ⟨st1, _, _⟩ := new_node (n := .dK []) (vs := []) (xs := []) st .nil (by simpa using st.nd) (by simpa using no) hΦ ⟨rfl, List.nodup_nil⟩
  have st1 : Stands K S σ (upd H p (.dK [])) Φ A F G := st1
  have sp1 : Step F G H Φ A F G (upd H p (.dK [])) Φ A := ⟨fun b o e _ => upd_same' hp _ _ e, fun _ _ e => e, fun _ _ e => .inl e, fun _ h => .inl h, fun _ h => .inl h, fun b hb => by
    by_cases e : b = p
    · subst e; rw [upd_same]; simp
    · rw [upd_ne e]; exact hb, Pfx.refl⟩
  unfold fDisp bindE at ho
  cases e1 : fPairs fps S with
  | none => rw [e1] at ho; cases ho
  | some o =>
    rw [e1] at ho
    cases o with
    | exc x S1 => cases ho; exact h.go st1 e1 (XP.at (T := []) (q.x x S1 rfl) sp1 .refl)
    | ok kr S1 =>
      refine h.go st1 e1 fun ps H2 Φ2 A2 T F2 G2 sp2 st2 eks rvs nd2 fz2 => ?_
      dsimp only at ho
      by_cases hc : (kr.map (·.1)).Nodup ∧ kr.length ≤ 15
      · rw [if_pos hc] at ho
        cases e3 : kids (kr.map (·.2)) S1 with
        | none => rw [e3] at ho; cases ho
        | some z =>
          obtain ⟨xs, S3⟩ := z
          rw [e3] at ho; cases ho
          obtain ⟨Φ3, F3, sp3, st3, rs3, fz3⟩ := kids_ok st2 rvs nd2 e3
          have hpG : p ∉ G := fun hb => no p (List.mem_append_right _ hb) rfl
          have hpF : p ∉ F := fun hb => no p (List.mem_append_left _ hb) rfl
          have hp2 : H2 p = some (.dK []) := sp2.keep p _ upd_same hpG
          have s13 : Step F G (upd H p (.dK [])) Φ A (T ++ F3) G2 H2 Φ3 A2 := Step.trans (T1 := []) sp2 sp3
          have pown : p ∉ (T ++ F3) ∧ p ∉ G2 := by
            refine ⟨fun hb => ?_, fun hb => ?_⟩
            · rcases s13.ownF p hb with h | h | h
              · exact hpF h
              · exact hpG h
              · rw [upd_same] at h; cases h
            · rcases s13.ownG p hb with h | h
              · exact hpG h
              · rw [upd_same] at h; cases h
          have hΦ3 : Φ3 p = none := by
            cases e : Φ3 p with
            | none => rfl
            | some o =>
              rcases s13.grow p o e with h | h | h | h
              · rw [hΦ] at h; cases h
              · exact absurd h hpF
              · exact absurd h hpG
              · rw [upd_same] at h; cases h
          have nd3 : (T ++ (F3 ++ G2)).Nodup := sp3.apart (fun b hb => (rvs.there b hb).1) nd2 st3.nd
          have lk : kr.length = (ps.map (·.2)).length := by
            have := congrArg List.length eks
            simpa using this.symm
          have fit : (Nd.dK (kr.map (·.1))).fits (ps.map (·.2)).length := ⟨by show (kr.map (·.1)).length = _; rw [List.length_map]; exact lk, hc.1⟩
          obtain ⟨st4, r4, nd4⟩ := new_node (n := .dK (kr.map (·.1))) st3 rs3 nd3 (fun b hb z => by
            subst z
            simp only [List.mem_append] at hb pown; grind) hΦ3 fit
          have eps : ps = ((kr.map (·.1)).zip (ps.map (·.2))).map (fun kv => (kV kv.1, kv.2)) := by
            have e1 : ∀ {ps : List (V × V)} {kr : List (Key × R)}, ps.map (·.1) = kr.map (fun x => kV x.1) → ps = ((kr.map (·.1)).zip (ps.map (·.2))).map (fun kv => (kV kv.1, kv.2)) := by
              intro ps
              induction ps with
              | nil => intro kr e; cases kr with
                | nil => rfl
                | cons => cases e
              | cons p ps ih =>
                intro kr e
                cases kr with
                | nil => cases e
                | cons z kr =>
                  rw [List.map_cons, List.map_cons, List.cons.injEq] at e
                  rw [List.map_cons, List.map_cons, List.zip_cons_cons, List.map_cons, ← e.1, ← ih e.2]
            exact e1 eks
          have lz : ((kr.map (·.1)).zip (ps.map (·.2))).length = kr.length := by rw [List.length_zip, List.length_map, ← lk, Nat.min_self]
          refine ⟨hp2, (kr.map (·.1)).zip (ps.map (·.2)), eps, by rw [lz]; exact hc.2, ?_⟩
          have em : mergeK [] ((kr.map (·.1)).zip (ps.map (·.2))) = (kr.map (·.1)).zip (ps.map (·.2)) := by
            rw [merge_nodup]
            · rfl
            · rw [List.nil_append, List.map_fst_zip (by rw [List.length_map, lk]; exact Nat.le_refl _)]; exact hc.1
          rw [em]
          have s03 : Step F G H Φ A (T ++ F3) G2 H2 Φ3 A2 := sp1.trans0 s13
          refine q (.ref p) _ Φ3 A2 (p :: T) F3 G2 ⟨fun b o e hn => ?_, s03.le, s03.grow, fun b hb => ?_, s03.ownG, fun b hb => ?_, s03.cells⟩ st4 r4 nd4 (fz2.trans fz3)
          · have hb : b ≠ p := fun z => by subst z; rw [hp] at e; cases e
            rw [upd_ne hb]; exact s03.keep b o e hn
          · rcases List.mem_append.mp hb with hb | hb
            · rcases List.mem_cons.mp hb with rfl | hb
              · exact .inr (.inr hp)
              · exact s03.ownF b (List.mem_append_left _ hb)
            · exact s03.ownF b (List.mem_append_right _ hb)
          · by_cases e : b = p
            · subst e; rw [upd_same]; simp
            · rw [upd_ne e]; exact s03.live b hb
      · rw [if_neg hc] at ho; cases ho
end
structure DPs (X : Cx) (W : WX) (pos : Pos) (keys : List (Option Expr)) (values : List Expr) (trs : List (TE × TE)) (fps : List (FE × FE)) : Prop where
  pps : PPs X pos keys values trs
  ev : EVPs X.K W trs fps
section
variable {X : Cx} {W : WX} {pos : Pos}
theorem dp_nil : DPs X W pos [] [] [] [] := ⟨pps_nil, .nil⟩
theorem dp_cons {k v : Expr} {ks : List (Option Expr)} {vs : List Expr} {tk tv : TE} {trs : List (TE × TE)} {fk fv : FE} {fps : List (FE × FE)} (hk : DE X W k tk fk) (hv : DE X W v tv fv) (hr : DPs X W pos ks vs trs fps) :
    DPs X W pos (some k :: ks) (v :: vs) ((tk, tv) :: trs) ((fk, fv) :: fps) := ⟨pps_cons hk.pe hv.pe hr.pps, .cons hk.ev hv.ev hr.ev⟩
theorem de_disp {keys : List (Option Expr)} {values : List Expr} {trs : List (TE × TE)} {fps : List (FE × FE)} (h : DPs X W pos keys values trs fps) (hall : keys.all (·.isSome) = true := by rfl) (hl : keys.length = values.length := by rfl) (h0 : keys ≠ [] := by exact fun z => nomatch z)
    (h15 : keys.length ≤ 15 := by decide) : DE X W (.Dict keys values pos) (tDisp trs) (fDisp fps) := ⟨pe_disp h.pps hall hl h0 h15, ev_disp h.ev⟩
/-- {} with keys ints and texts -/
def fDNew (n : Nd) : FE := fun S => some (.ok (.val (.node n [])) S)
theorem ev_dnew {K : PySem.W.Frag} {n : Nd} (hf : n.fits 0) : EV K W (fun _ H Q => ∀ p, H p = none → Q (.ref p) (upd H p (n.ho []))) (fDNew n) := fun S σ H Φ A F G st out ho Q q => by
  cases ho
  intro p hp
  have hΦ : Φ p = none := by
    cases e : Φ p with
    | none => rfl
    | some o => have := st.le _ _ e; rw [hp] at this; cases this
  have no : ∀ b ∈ F ++ G, b ≠ p := fun b hb z => by
    subst z
    rcases List.mem_append.mp hb with hb | hb
    · exact (st.ro.there b hb).1 hp
    · exact (st.rc.there b hb).1 hp
  obtain ⟨st1, r1, nd1⟩ := new_node (n := n) (vs := []) (xs := []) st .nil (by simpa using st.nd) (by simpa using no) hΦ hf
  refine q (.ref p) _ Φ A [p] F G ⟨fun b o e _ => upd_same' hp _ _ e, fun _ _ e => e, fun _ _ e => .inl e, fun b hb => ?_, fun _ h => .inl h, fun b hb => ?_, Pfx.refl⟩ st1 r1 nd1 .refl
  · rcases List.mem_append.mp hb with hb | hb
    · have := List.mem_singleton.mp hb; subst this; exact .inr (.inr hp)
    · exact .inl hb
  · by_cases e : b = p
    · subst e; rw [upd_same]; simp
    · rw [upd_ne e]; exact hb
theorem de_dnewK : DE X W (.Dict [] [] pos) tDNewK (fDNew (.dK [])) := ⟨pe_dnewK, fun S σ H Φ A F G st out ho Q q => ev_dnew (n := .dK []) ⟨rfl, List.nodup_nil⟩ S σ H Φ A F G st out ho Q q⟩
theorem de_dnewT : DE X W (.Dict [] [] pos) tDNewT (fDNew (.dT [])) := ⟨pe_dnewT, fun S σ H Φ A F G st out ho Q q => ev_dnew (n := .dT []) ⟨rfl, List.nodup_nil⟩ S σ H Φ A F G st out ho Q q⟩
end
/-! ### name = value, the value a cell from here on -/
def fSetC (i : Nat) (fe : FE) : FS := bindS fe fun r S => match r with
  | .val (.node n xs) => (({ S with μ := S.μ ++ [.node n xs] } : Sto).put i (.cell S.μ.length)).map SO.nx
  | _ => none
section
variable {X : Cx} {W : WX} {e : Expr} {pos : Pos} {te : TE} {fe : FE}
theorem ev_setC {K : PySem.W.Frag} {i : Nat} (h : EV K W te fe) : SEV K W (tAsg te (gName i)) (fSetC i fe) := fun S σ H Φ A F G st out ho D q => by
  refine runS2 (t := te) h st ho q fun r S1 v H1 Φ1 A1 T F1 G1 sp st1 rv nd fz q1 h1 => ?_
  cases r with
  | bor j p => cases h1
  | val x =>
    cases x with
    | dat d => cases h1
    | cell c => cases h1
    | node n xs =>
      have rv : RS K Φ1 H1 A1 v (.node n xs) T := rv
      cases rv with
      | @node a _ vs _ U ea f pa qs =>
        have rs : RS K Φ1 H1 A1 (.ref a) (.node n xs) (a :: U) := .node ea f pa qs
        have pfx : Pfx A1 (A1 ++ [a]) := fun k x e => by rw [List.getElem?_append_left (List.getElem?_eq_some_iff.mp e).1]; exact e
        have la : A1.length = S1.μ.length := st1.rc.length
        have rc' := RC.snoc (rs.frame (Same.refl _) pfx (fun _ _ => rfl) fun b hb => (rs.there b hb).2) (st1.rc.frame (Same.refl _) pfx (fun _ _ => rfl) fun b hb => (st1.rc.there b hb).2)
        have ro' := st1.ro.frame (Same.refl _) pfx (fun _ _ => rfl) fun b hb => (st1.ro.there b hb).2
        have nd' : (F1 ++ (G1 ++ (a :: U))).Nodup := by
          simp only [List.nodup_append, List.mem_append] at nd ⊢; grind
        have st2 : Stands K { S1 with μ := S1.μ ++ [.node n xs] } σ H1 Φ1 (A1 ++ [a]) F1 (G1 ++ (a :: U)) := ⟨st1.le, ro', rc', nd'⟩
        have h1 : (({ S1 with μ := S1.μ ++ [.node n xs] } : Sto).put i (.cell S1.μ.length)).map SO.nx = some out := h1
        unfold Sto.put at h1
        by_cases hi : i < S1.ρ.length
        · have h1 : some (SO.nx { ρ := S1.ρ.set i (some (.cell S1.μ.length)), μ := S1.μ ++ [.node n xs] }) = some out := by rw [← h1, if_pos hi]; rfl
          cases h1
          obtain ⟨F3, st3, hF⟩ := st2.set (v := .ref a) (x := .cell S1.μ.length) (T := []) (.cell (by rw [← la, List.getElem?_append_right (Nat.le_refl _)]; simp)) (by simpa using nd') hi
          refine q _ H1 Φ1 (A1 ++ [a]) F3 (G1 ++ (a :: U)) ?_ st3
          have rn := sp.run
          refine ⟨rn.keep, rn.le, rn.grow, fun b hb => ?_, rn.live, rn.cells.trans pfx⟩
          rcases hb with hb | hb
          · rcases hF b hb with h | h
            · simp at h
            · exact rn.own b (.inl (List.mem_append_right _ h))
          · rcases List.mem_append.mp hb with hb | hb
            · exact rn.own b (.inr hb)
            · exact rn.own b (.inl (List.mem_append_left _ hb))
        · rw [if_neg hi] at h1; cases h1
theorem ds_setC {x : Str} {pos' : Pos} {i : Nat} (hN : X.N.Nodup) (h : DE X W e te fe) (hi : X.N[i]? = some x := by rfl) (hx : Loc X.env.scope x := by first | exact Or.inl rfl | exact Or.inr rfl) (hs : swapsWith e (some (.Name x pos')) pos.line X.env = pure false := by rfl)
    (hf : X.fn x = true ∨ X.env.scope.names.lookup x = some .local := by first | exact .inl rfl | exact .inr rfl) : DS X W (.Assign [.Name x pos'] e pos) (tAsg te (gName i)) (fSetC i fe) := ⟨ps_set hN hi hx h.pe hs hf, ev_setC h.ev⟩
end
end L3

namespace L3
open PySem PySem.Spec PyProof.Rows L2

section
variable {X : Cx} {W : WX} {a b e o : Expr} {pos apos : Pos} {ta tb te to : TE} {fa fb fe fo : FE}
/-! ### frozen from here on -/
def fFrz (f : FE) : FE := bindE f fun r S => (r.esc S).map fun z => .ok (.d z.1) z.2
theorem ev_frz {K : PySem.W.Frag} (h : EV K W te fe) : EV K W te (fFrz fe) := fun S σ H Φ A F G st out ho Q q => by
  refine run1 (t := te) h st ho q.x fun r S1 v H1 Φ1 A1 T F1 G1 sp st1 rv nd fz h1 => ?_
  cases e1 : r.esc S1 with
  | none => rw [e1] at h1; cases h1
  | some z =>
    obtain ⟨d, S2⟩ := z
    rw [e1] at h1; cases h1
    obtain ⟨Φ2, F2, sp2, st2, rp2, fz2⟩ := esc_ok st1 rv nd e1
    exact q v H1 Φ2 A1 [] F2 G1 (sp.trans0 sp2) st2 (RS.dat rp2) (by simpa using st2.nd) (fz.trans fz2)
theorem de_frz (h : DE X W e te fe) : DE X W e te (fFrz fe) := ⟨h.pe, ev_frz h.ev⟩
theorem ds_setCompF {elt tge iter : Expr} {ifs : List Expr} {scope : Scope} {own : List (Str × Nat)} {spos py : Pos} {wi : TI} {g : TG} {tg : Tg} {fi : FI} {ft : FT} {y : Str} {i : Nat} (hc : X.calm = true) (hN : X.N.Nodup) (hi : DI X W tge iter wi fi) (ok : BlkOk X.N X.env.scope scope own)
    (hg : ∀ (s : Shared) (H : Hp) (C : Addr) (cl : List (Str × Addr)) (fp : List Addr), DG (X.blk s H scope (compEnvC scope cl C X.env) fp) tge g tg)
    (ht : ∀ (s : Shared) (H : Hp) (C : Addr) (cl : List (Str × Addr)) (fp : List Addr), ∃ tt, DTs (X.blk s H scope (compEnvC scope cl C X.env) fp) W0 ifs tt ft)
    (he : ∀ (s : Shared) (H : Hp) (C : Addr) (cl : List (Str × Addr)) (fp : List Addr), ∃ te, DE (X.blk s H scope (compEnvC scope cl C X.env) fp) W0 elt te fe)
    (hy : X.N[i]? = some y := by rfl) (hyl : X.env.scope.names.lookup y = some .local := by rfl)
    (hsw : swapsWith (.ListComp elt [⟨tge, iter, ifs, 0⟩] scope pos) (some (.Name y py)) spos.line X.env = pure true := by rfl)
    (hv : ∀ i ∈ tg.sl, i ∈ own.map (·.2) := by decide) (hs : ∀ x, foldedSetIterable iter X.env x = pure x := by intro _; rfl) :
    DS X W (.Assign [.Name y py] (.ListComp elt [⟨tge, iter, ifs, 0⟩] scope pos) spos) (tAsg (tLc wi g (tOfT X.K W0 ft) (tOf X.K W0 fe) (own.map (·.2))) (gName i)) (fSet i (fFrz (fComp tg fi ft fe (own.map (·.2))))) :=
  ⟨(ds_setComp hc hN hi ok hg ht he hy hyl hsw hv hs).ps, ev_set (ev_frz (ev_comp hi.ev (hg X.s_0 X.H_0 0 [] []).ev ev_tOfT ev_tOf hv))⟩
/-! ### numbers -/
theorem og_mulI' {K : PySem.W.Frag} : OpG K (rI CMul fun i j => .int (i * j)) (g2 (dI iMul)) := og_mulI
theorem de_mulI (ha : DE X W a ta fa) (hb : DE X W b tb fb) : DE X W (.BinOp a .Mult b pos) (tOp (rI CMul fun i j => .int (i * j)) ta tb) (fBin (g2 (dI iMul)) fa fb) := de_bin op_mul og_mulI ha hb
def negD : D → Option D
  | .int i => some (.int (-i))
  | _ => none
def fNeg (f : FE) : FE := bindE f fun r S => ((r.peek S).bind negD).map fun d => .ok (.d d) S
theorem de_neg (ha : DE X W a ta fa) : DE X W (.UnaryOp .USub a pos) (tUn (rU fun i => .int (-i)) ta) (fNeg fa) := ⟨pe_un un_neg ha.pe, fun S σ H Φ A F G st out ho Q q => by
  refine run1 (t := ta) ha.ev st ho q.x fun r S1 v H1 Φ1 A1 T F1 G1 sp st1 rv nd fz h1 => ?_
  cases e1 : r.peek S1 with
  | none => rw [e1] at h1; cases h1
  | some d =>
    rw [e1] at h1
    have rp := rv.rp st1 e1
    cases d <;> try cases h1
    rename_i i
    cases rp
    exact ⟨i, rfl, q _ H1 Φ1 A1 [] F1 G1 sp.drop st1 (RS.dat (.int _)) (by simpa using st1.nd) fz⟩⟩
/-! ### the order: numbers, texts -/
def dLt : D → D → Option D
  | .int i, .int j => some (.bl (decide (i < j)))
  | .str x, .str y => some (.bl (decide (x.cps.toList < y.cps.toList)))
  | _, _ => none
def dLe : D → D → Option D
  | .int i, .int j => some (.bl (decide (i ≤ j)))
  | .str x, .str y => some (.bl (!decide (y.cps.toList < x.cps.toList)))
  | _, _ => none
def rOrd (f : Int → Int → V) (g : Str → Str → V) : R2 := fun x y H Q => rI0 f x y H Q ∨ ∃ i j, x = .str i ∧ y = .str j ∧ Q (g i j) H
theorem og_ord {K : PySem.W.Frag} {f : Int → Int → Bool} {g : Str → Str → Bool} {d : D → D → Option D} (h1 : ∀ i j, d (.int i) (.int j) = some (.bl (f i j))) (h2 : ∀ i j, d (.str i) (.str j) = some (.bl (g i j)))
    (h3 : ∀ x y z, d x y = some z → (∃ i j, x = .int i ∧ y = .int j) ∨ ∃ i j, x = .str i ∧ y = .str j) : OpG K (rOrd (fun i j => .bl (f i j)) (fun i j => .bl (g i j))) (g2 d) := opG_scal fun H x y dx dy z rx ry e Q q => by
  rcases h3 _ _ _ e with ⟨i, j, rfl, rfl⟩ | ⟨i, j, rfl, rfl⟩
  · cases rx; cases ry; rw [h1] at e; cases e
    exact .inl ⟨i, j, rfl, rfl, q _ fun H' => .bl _⟩
  · cases rx; cases ry; rw [h2] at e; cases e
    exact .inr ⟨i, j, rfl, rfl, q _ fun H' => .bl _⟩
theorem dLt_k {x y z : D} (e : dLt x y = some z) : (∃ i j, x = .int i ∧ y = .int j) ∨ ∃ i j, x = .str i ∧ y = .str j := by
  cases x <;> cases y <;> first | exact .inl ⟨_, _, rfl, rfl⟩ | exact .inr ⟨_, _, rfl, rfl⟩ | cases e
theorem dLe_k {x y z : D} (e : dLe x y = some z) : (∃ i j, x = .int i ∧ y = .int j) ∨ ∃ i j, x = .str i ∧ y = .str j := by
  cases x <;> cases y <;> first | exact .inl ⟨_, _, rfl, rfl⟩ | exact .inr ⟨_, _, rfl, rfl⟩ | cases e
abbrev rLt : R2 := rOrd (fun i j => .bl (decide (i < j))) (fun i j => .bl (decide (i.cps.toList < j.cps.toList)))
abbrev rLe : R2 := rOrd (fun i j => .bl (decide (i ≤ j))) (fun i j => .bl (!decide (j.cps.toList < i.cps.toList)))
abbrev rGt : R2 := rOrd (fun i j => .bl (decide (j < i))) (fun i j => .bl (decide (j.cps.toList < i.cps.toList)))
abbrev rGe : R2 := rOrd (fun i j => .bl (decide (j ≤ i))) (fun i j => .bl (!decide (i.cps.toList < j.cps.toList)))
abbrev gLt : G2 := g2 dLt
abbrev gLe : G2 := g2 dLe
abbrev gGt : G2 := g2 fun x y => dLt y x
abbrev gGe : G2 := g2 fun x y => dLe y x
theorem og_lt {K : PySem.W.Frag} : OpG K rLt gLt := og_ord (fun _ _ => rfl) (fun _ _ => rfl) (fun _ _ _ => dLt_k)
theorem og_le {K : PySem.W.Frag} : OpG K rLe gLe := og_ord (fun _ _ => rfl) (fun _ _ => rfl) (fun _ _ _ => dLe_k)
theorem og_gt {K : PySem.W.Frag} : OpG K rGt gGt := og_ord (fun _ _ => rfl) (fun _ _ => rfl) (fun _ _ _ e => (dLt_k e).imp (fun ⟨i, j, a, b⟩ => ⟨j, i, b, a⟩) fun ⟨i, j, a, b⟩ => ⟨j, i, b, a⟩)
theorem og_ge {K : PySem.W.Frag} : OpG K rGe gGe := og_ord (fun _ _ => rfl) (fun _ _ => rfl) (fun _ _ _ e => (dLe_k e).imp (fun ⟨i, j, a, b⟩ => ⟨j, i, b, a⟩) fun ⟨i, j, a, b⟩ => ⟨j, i, b, a⟩)
theorem op_ltP : OpR X (compareOp .Lt) rLt := op_lt.or op_lt_str
theorem op_leP : OpR X (compareOp .LtE) rLe := op_le.or op_le_str
theorem op_gtP : OpR X (compareOp .Gt) rGt := op_gt.or op_gt_str
theorem op_geP : OpR X (compareOp .GtE) rGe := op_ge.or op_ge_str
theorem dt_lt (ha : DE X W a ta fa) (hb : DE X W b tb fb) (hm : behindInMarks .Lt b = false := by rfl) : DT X W (.Compare a [.Lt] [b] pos) (tTest (tOp rLt ta tb)) (fTest (fBin gLt fa fb)) := dt_cmp op_ltP og_lt ha hb hm
theorem dt_le (ha : DE X W a ta fa) (hb : DE X W b tb fb) (hm : behindInMarks .LtE b = false := by rfl) : DT X W (.Compare a [.LtE] [b] pos) (tTest (tOp rLe ta tb)) (fTest (fBin gLe fa fb)) := dt_cmp op_leP og_le ha hb hm
theorem dt_gt (ha : DE X W a ta fa) (hb : DE X W b tb fb) (hm : behindInMarks .Gt b = false := by rfl) : DT X W (.Compare a [.Gt] [b] pos) (tTest (tOp rGt ta tb)) (fTest (fBin gGt fa fb)) := dt_cmp op_gtP og_gt ha hb hm
theorem dt_ge (ha : DE X W a ta fa) (hb : DE X W b tb fb) (hm : behindInMarks .GtE b = false := by rfl) : DT X W (.Compare a [.GtE] [b] pos) (tTest (tOp rGe ta tb)) (fTest (fBin gGe fa fb)) := dt_cmp op_geP og_ge ha hb hm
theorem de_lt (ha : DE X W a ta fa) (hb : DE X W b tb fb) (hm : behindInMarks .Lt b = false := by rfl) : DE X W (.Compare a [.Lt] [b] pos) (tOp rLt ta tb) (fBin gLt fa fb) := de_cmp op_ltP og_lt ha hb hm
theorem de_le (ha : DE X W a ta fa) (hb : DE X W b tb fb) (hm : behindInMarks .LtE b = false := by rfl) : DE X W (.Compare a [.LtE] [b] pos) (tOp rLe ta tb) (fBin gLe fa fb) := de_cmp op_leP og_le ha hb hm
theorem de_gt (ha : DE X W a ta fa) (hb : DE X W b tb fb) (hm : behindInMarks .Gt b = false := by rfl) : DE X W (.Compare a [.Gt] [b] pos) (tOp rGt ta tb) (fBin gGt fa fb) := de_cmp op_gtP og_gt ha hb hm
theorem de_ge (ha : DE X W a ta fa) (hb : DE X W b tb fb) (hm : behindInMarks .GtE b = false := by rfl) : DE X W (.Compare a [.GtE] [b] pos) (tOp rGe ta tb) (fBin gGe fa fb) := de_cmp op_geP og_ge ha hb hm
/-! ### equality, None: tests -/
theorem dt_eq (hu : X.A.units + 65 < cLine) (ha : DE X W a ta fa) (hb : DE X W b tb fb) (hm : behindInMarks .Eq b = false := by rfl) : DT X W (.Compare a [.Eq] [b] pos) (tTest (tOp (rEqA X.K) ta tb)) (fTest (fBin (g2 dEq) fa fb)) := dt_cmp (op_eqA (by omega)) og_eq ha hb hm
theorem dt_ne (hu : X.A.units + 65 < cLine) (ha : DE X W a ta fa) (hb : DE X W b tb fb) (hm : behindInMarks .NotEq b = false := by rfl) : DT X W (.Compare a [.NotEq] [b] pos) (tTest (tOp (rNeA X.K) ta tb)) (fTest (fBin (g2 dNe) fa fb)) := dt_cmp (op_neA (by omega)) og_ne ha hb hm
theorem de_eq (hu : X.A.units + 65 < cLine) (ha : DE X W a ta fa) (hb : DE X W b tb fb) (hm : behindInMarks .Eq b = false := by rfl) : DE X W (.Compare a [.Eq] [b] pos) (tOp (rEqA X.K) ta tb) (fBin (g2 dEq) fa fb) := de_cmp (op_eqA (by omega)) og_eq ha hb hm
theorem de_ne (hu : X.A.units + 65 < cLine) (ha : DE X W a ta fa) (hb : DE X W b tb fb) (hm : behindInMarks .NotEq b = false := by rfl) : DE X W (.Compare a [.NotEq] [b] pos) (tOp (rNeA X.K) ta tb) (fBin (g2 dNe) fa fb) := de_cmp (op_neA (by omega)) og_ne ha hb hm
/-! ### in -/
def xorB (neg b : Bool) : Bool := if neg then !b else b
def inD (neg : Bool) (x y : D) : Option D := match y with
  | .lst ds => match x.py, pys ds with
    | some p, some ps => if SeqAt.shaped p = true ∧ SeqAt.shaped (.list ps) = true then some (.bl (xorB neg (ps.any fun z => PyData.eqv z p))) else none
    | _, _ => none
  | .tup ds => match x.py, pys ds with
    | some p, some ps => if SeqAt.shaped p = true ∧ SeqAt.shaped (.list ps) = true then some (.bl (xorB neg (ps.any fun z => PyData.eqv z p))) else none
    | _, _ => none
  | .str z => match x with
    | .str w => some (.bl (xorB neg (!(Builtin.Str.occurrences z w 0 z.length 1).isEmpty)))
    | _ => none
  | _ => none
def rInA (K : PySem.W.Frag) (neg : Bool) : R2 := fun x y H Q => (∃ d ds, Dp K H x d ∧ (Dp K H y (.list ds) ∨ Dp K H y (.tuple ds)) ∧ SeqAt.shaped d = true ∧ SeqAt.shaped (.list ds) = true ∧ Q (.bl (xorB neg (ds.any fun z => PyData.eqv z d))) H) ∨
  ∃ i j, x = .str i ∧ y = .str j ∧ Q (.bl (xorB neg (!(Builtin.Str.occurrences j i 0 j.length 1).isEmpty))) H
theorem op_inA (hu : X.A.units + 65 < cLine) : OpR X (compareOp .In) (rInA X.K false) := by
  rintro pins s σ H x y v u Q I rx ry (⟨d, ds, hd, he, sd, se, q⟩ | ⟨i, j, e1, e2, q⟩)
  · obtain ⟨as, r1⟩ := Dp.reads I d x v hd rx
    rcases he with he | he
    · obtain ⟨bs, r2⟩ := Dp.reads I (.list ds) y u he ry
      exact SeqAt.in_list_reads r2 r1 (SeqAt.canLay_of_shaped se) (SeqAt.canLay_of_shaped sd) (room_in_shaped sd hu) ⟨.bl _, H, I, rfl, q⟩
    · obtain ⟨bs, r2⟩ := Dp.reads I (.tuple ds) y u he ry
      exact SeqAt.in_tuple_reads r2 r1 (SeqAt.canLay_of_shaped se) (SeqAt.canLay_of_shaped sd) (room_in_shaped sd hu) ⟨.bl _, H, I, rfl, q⟩
  · exact op_in_str pins s σ H x y v u Q I rx ry ⟨i, j, e1, e2, q⟩
theorem op_notInA (hu : X.A.units + 65 < cLine) : OpR X (compareOp .NotIn) (rInA X.K true) := by
  rintro pins s σ H x y v u Q I rx ry (⟨d, ds, hd, he, sd, se, q⟩ | ⟨i, j, e1, e2, q⟩)
  · obtain ⟨as, r1⟩ := Dp.reads I d x v hd rx
    rcases he with he | he
    · obtain ⟨bs, r2⟩ := Dp.reads I (.list ds) y u he ry
      exact SeqAt.notIn_list_reads r2 r1 (SeqAt.canLay_of_shaped se) (SeqAt.canLay_of_shaped sd) (room_in_shaped sd hu) ⟨.bl _, H, I, rfl, q⟩
    · obtain ⟨bs, r2⟩ := Dp.reads I (.tuple ds) y u he ry
      exact SeqAt.notIn_tuple_reads r2 r1 (SeqAt.canLay_of_shaped se) (SeqAt.canLay_of_shaped sd) (room_in_shaped sd hu) ⟨.bl _, H, I, rfl, q⟩
  · exact op_notIn_str pins s σ H x y v u Q I rx ry ⟨i, j, e1, e2, q⟩
theorem og_in {K : PySem.W.Frag} (neg : Bool) : OpG K (rInA K neg) (g2 (inD neg)) := opG_scal fun H x y dx dy z rx ry e Q q => by
  have fin : ∀ {ds : List D}, (Rp K H y (.lst ds) ∨ Rp K H y (.tup ds)) → (match dx.py, pys ds with
      | some p, some ps => if SeqAt.shaped p = true ∧ SeqAt.shaped (.list ps) = true then some (D.bl (xorB neg (ps.any fun z => PyData.eqv z p))) else none
      | _, _ => none) = some z → rInA K neg x y H Q := fun {ds} hy e => by
    cases e1 : dx.py with
    | none => rw [e1] at e; cases e
    | some p =>
      cases e2 : pys ds with
      | none => rw [e1, e2] at e; cases e
      | some ps =>
        rw [e1, e2] at e
        dsimp only at e
        by_cases h : SeqAt.shaped p = true ∧ SeqAt.shaped (.list ps) = true
        · rw [if_pos h] at e; cases e
          refine .inl ⟨p, ps, rx.dp e1, hy.imp (fun r => r.dp ?_) (fun r => r.dp ?_), h.1, h.2, q _ fun H' => .bl _⟩
          · show (D.lst ds).py = _; unfold D.py; rw [e2]; rfl
          · show (D.tup ds).py = _; unfold D.py; rw [e2]; rfl
        · rw [if_neg h] at e; cases e
  cases dy with
  | lst ds => exact fin (.inl ry) e
  | tup ds => exact fin (.inr ry) e
  | str z =>
    cases dx <;> try cases e
    cases rx; cases ry
    exact .inr ⟨_, _, rfl, rfl, q _ fun H' => .bl _⟩
  | _ => cases e
theorem dt_in (hu : X.A.units + 65 < cLine) (ha : DE X W a ta fa) (hb : DE X W b tb fb) (hm : behindInMarks .In b = false := by rfl) : DT X W (.Compare a [.In] [b] pos) (tTest (tOp (rInA X.K false) ta tb)) (fTest (fBin (g2 (inD false)) fa fb)) := dt_cmp (op_inA hu) (og_in false) ha hb hm
theorem dt_notIn (hu : X.A.units + 65 < cLine) (ha : DE X W a ta fa) (hb : DE X W b tb fb) (hm : behindInMarks .NotIn b = false := by rfl) : DT X W (.Compare a [.NotIn] [b] pos) (tTest (tOp (rInA X.K true) ta tb)) (fTest (fBin (g2 (inD true)) fa fb)) := dt_cmp (op_notInA hu) (og_in true) ha hb hm
theorem de_in (hu : X.A.units + 65 < cLine) (ha : DE X W a ta fa) (hb : DE X W b tb fb) (hm : behindInMarks .In b = false := by rfl) : DE X W (.Compare a [.In] [b] pos) (tOp (rInA X.K false) ta tb) (fBin (g2 (inD false)) fa fb) := de_cmp (op_inA hu) (og_in false) ha hb hm
theorem de_notIn (hu : X.A.units + 65 < cLine) (ha : DE X W a ta fa) (hb : DE X W b tb fb) (hm : behindInMarks .NotIn b = false := by rfl) : DE X W (.Compare a [.NotIn] [b] pos) (tOp (rInA X.K true) ta tb) (fBin (g2 (inD true)) fa fb) := de_cmp (op_notInA hu) (og_in true) ha hb hm
/-! ### methods of texts with one argument -/
def isStr : D → Bool
  | .str _ => true
  | _ => false
def fM1 (g : G2) (fo fe : FE) : FE := bindE fo fun ro S1 => if ((ro.peek S1).map isStr) = some true then bindE fe (fun re S2 => (g ro re S2).map fun z => .ok z.1 z.2) S1 else none
theorem ev_m1 {K : PySem.W.Frag} {r : V → List V → Hp → VK → Prop} {g : G2} (hg : OpG K (fun x y H Q => r x [y] H Q) g) (ho : EV K W to fo) (he : EV K W te fe) : EV K W (tM1 r to te) (fM1 g fo fe) := fun S σ H Φ A F G st out h Q q => by
  refine run1 (t := to) ho st h q.x fun ro S1 x H1 Φ1 A1 T F1 G1 sp st1 rv nd fz h1 => ?_
  by_cases hs : ((ro.peek S1).map isStr) = some true
  · rw [if_pos hs] at h1
    have ex : ∃ a, x = .str a := by
      cases e1 : ro.peek S1 with
      | none => rw [e1] at hs; cases hs
      | some d =>
        rw [e1] at hs
        have rp := rv.rp st1 e1
        cases d <;> try cases hs
        cases rp
        exact ⟨_, rfl⟩
    refine ⟨ex, run1 (t := te) he st1 h1 (fun e S' eo => (q.x e S' eo).at sp fz) fun re S2 y H2 Φ2 A2 U F2 G2 sp2 st2 rv2 nd2 fz2 h2 => ?_⟩
    cases e : g ro re S2 with
    | none => rw [e] at h2; cases h2
    | some z =>
      obtain ⟨rz, S'⟩ := z
      rw [e] at h2; cases h2
      have rv' := rv.step st1 nd sp2.drop fz2
      refine hg S2 σ H2 Φ2 A2 F2 G2 x y ro re T U st2 rv' rv2 (rv.nd nd sp2 nd2) rz S' e Q fun v H' Φ' A' V F' G' s2 st' rvz nd' f2 => ?_
      have s12 : Step F G H Φ A (T ++ (U ++ F2)) G2 H2 Φ2 A2 := sp.trans sp2
      exact q v H' Φ' A' V F' G' (Step.trans (T := []) (T1 := V) (F1 := T ++ (U ++ F2)) s12 s2) st' rvz nd' ((fz.trans fz2).trans f2)
  · rw [if_neg hs] at h1; cases h1
/-- a new list of texts -/
def gSplit : G2 := fun ra rb S => match ra.peek S, rb.peek S with
  | some (.str x), some (.str y) => if (y.length == 0) = false ∧ x.length ≤ 1000000 then some (.val (.own ((Txt.split x y).map fun z => .dat (.str z))), S) else none
  | _, _ => none
theorem rps_strs {K : PySem.W.Frag} {H : Hp} : ∀ {ys : List Str}, Rps K H (ys.map V.str) (ys.map D.str)
  | [] => .nil
  | _ :: ys => .cons (.str _) rps_strs
theorem k1000002 {n : Nat} (h : n ≤ 1000000) : n + 2 ≤ sizeLine := Nat.le_trans (Nat.add_le_add_right h 2) (by rw [sizeLine_eq]; decide)
theorem og_split {K : PySem.W.Frag} : OpG K (fun x y H Q => ∃ a b, x = .str a ∧ [y] = [.str b] ∧ (b.length == 0) = false ∧ a.length + 2 ≤ sizeLine ∧ rNewStrs (Txt.split a b) H Q) gSplit := by
  intro S σ H Φ A F G x y ra rb T U st rx ry nd rz S' e Q q
  unfold gSplit at e
  split at e
  · rename_i i j e1 e2
    split at e
    · rename_i hc
      cases e
      have r1 := rx.rp st e1
      have r2 := ry.rp st e2
      cases r1; cases r2
      refine ⟨i, j, rfl, rfl, hc.1, k1000002 hc.2, fun p hp => ?_⟩
      have stay : Step (T ++ (U ++ F)) G H Φ A F G H Φ A := ⟨fun _ _ e _ => e, fun _ _ e => e, fun _ _ e => .inl e, fun b hb => .inl (by simp [hb]), fun _ h => .inl h, fun _ h => h, Pfx.refl⟩
      have eds : ((Txt.split i j).map fun z => SV.dat (.str z)) = ((Txt.split i j).map D.str).map SV.dat := by rw [List.map_map]; rfl
      rw [eds] at q
      exact end_list q stay st rps_strs hp
    · cases e
  · cases e
def rSplit : V → List V → Hp → VK → Prop := fun x xs H Q => ∃ a b, x = .str a ∧ xs = [.str b] ∧ (b.length == 0) = false ∧ a.length + 2 ≤ sizeLine ∧ rNewStrs (Txt.split a b) H Q
theorem de_split (ho : DE X W o to fo) (he : DE X W e te fe) (hs : starEach [e] X.env = [(false, eval e X.env)] := by rfl) (hbase : attributeBase o "split" X.env (eval o X.env) = eval o X.env := by rfl) (hline : (apos.endLine == pos.line) = true := by rfl) :
    DE X W (.Call (.Attribute o "split" apos) [e] [] pos) (tM1 rSplit to te) (fM1 gSplit fo fe) :=
  ⟨pe_split ho.pe he.pe hs hbase hline, ev_m1 og_split ho.ev he.ev⟩
def strsD : List D → Option (List Str)
  | [] => some []
  | .str x :: ds => (strsD ds).map fun xs => x :: xs
  | _ :: _ => none
theorem strsD_eq : ∀ {ds : List D} {ys : List Str}, strsD ds = some ys → ds = ys.map D.str
  | [], ys, e => by cases e; rfl
  | d :: ds, ys, e => by
    cases d <;> try cases e
    rename_i x
    have e : (strsD ds).map (fun xs => x :: xs) = some ys := e
    cases e1 : strsD ds with
    | none => rw [e1] at e; cases e
    | some zs => rw [e1] at e; cases e; rw [strsD_eq e1]; rfl
theorem rps_strs' {K : PySem.W.Frag} {H : Hp} : ∀ {ys : List Str} {vs : List V}, Rps K H vs (ys.map D.str) → vs = ys.map V.str
  | [], _, .nil => rfl
  | _ :: ys, _, .cons q r => by cases q; rw [rps_strs' r]; rfl
def joinD (x : Str) (ds : List D) : Option D := (strsD ds).bind fun ys => if (ys.map (·.length)).sum + ys.length * x.length ≤ 16777216 then some (.str (Txt.join x ys)) else none
def dJoin : D → D → Option D
  | .str x, .lst ds => joinD x ds
  | .str x, .tup ds => joinD x ds
  | _, _ => none
theorem og_join {K : PySem.W.Frag} : OpG K (fun x y H Q => ∃ a p, ∃ ys : List Str, x = .str a ∧ [y] = [.ref p] ∧ (SqL K H p (ys.map V.str) ∨ SqT K H p (ys.map V.str)) ∧
      (ys.map (·.length)).sum + ys.length * a.length ≤ 16777216 ∧ Q (.str (Txt.join a ys)) H) (g2 dJoin) := opG_scal fun H x y dx dy z rx ry e Q q => by
  have fin : ∀ {i : Str} {ds : List D}, joinD i ds = some z → ∃ ys, ds = ys.map D.str ∧ (ys.map (·.length)).sum + ys.length * i.length ≤ 16777216 ∧ z = .str (Txt.join i ys) := fun {i ds} e => by
    unfold joinD at e
    cases e1 : strsD ds with
    | none => rw [e1] at e; cases e
    | some ys =>
      rw [e1, Option.bind_some] at e
      split at e
      · cases e; exact ⟨ys, strsD_eq e1, by assumption, rfl⟩
      · cases e
  cases dx <;> cases dy <;> try cases e
  · obtain ⟨ys, rfl, hz, rfl⟩ := fin e
    cases rx
    cases ry with
    | lst sq rr =>
      rw [rps_strs' rr] at sq
      exact ⟨_, _, ys, rfl, rfl, .inl sq, hz, q _ fun H' => .str _⟩
  · obtain ⟨ys, rfl, hz, rfl⟩ := fin e
    cases rx
    cases ry with
    | tup sq rr =>
      rw [rps_strs' rr] at sq
      exact ⟨_, _, ys, rfl, rfl, .inr sq, hz, q _ fun H' => .str _⟩
def rJoin (K : PySem.W.Frag) : V → List V → Hp → VK → Prop := fun x xs H Q => ∃ a p, ∃ ys : List Str, x = .str a ∧ xs = [.ref p] ∧ (SqL K H p (ys.map V.str) ∨ SqT K H p (ys.map V.str)) ∧ (ys.map (·.length)).sum + ys.length * a.length ≤ 16777216 ∧ Q (.str (Txt.join a ys)) H
theorem de_join (ho : DE X W o to fo) (he : DE X W e te fe) (hs : starEach [e] X.env = [(false, eval e X.env)] := by rfl) (hbase : attributeBase o "join" X.env (eval o X.env) = eval o X.env := by rfl) (hline : (apos.endLine == pos.line) = true := by rfl) :
    DE X W (.Call (.Attribute o "join" apos) [e] [] pos) (tM1 (rJoin X.K) to te) (fM1 (g2 dJoin) fo fe) :=
  ⟨pe_join ho.pe he.pe hs hbase hline, ev_m1 og_join ho.ev he.ev⟩
/-! ### name op= value -/
def fAug (i : Nat) (g : G2) (fe : FE) : FS := fun S => match S.ρ[i]? with
  | some (some _) => bindS fe (fun re S1 => match g (.bor i []) re S1 with
    | some (rz, S2) => match rz.kid S2 with
      | some (x, S3) => (S3.put i x).map SO.nx
      | none => none
    | none => none) S
  | _ => none
theorem ev_aug {K : PySem.W.Frag} {i : Nat} {r : R2} {g : G2} (hg : OpG K r g) (he : EV K W te fe) : SEV K W (tAug i te r) (fAug i g fe) := fun S σ H Φ A F G st out ho D q => by
  unfold fAug at ho
  cases e0 : S.ρ[i]? with
  | none => rw [e0] at ho; cases ho
  | some o0 =>
    cases o0 with
    | none => rw [e0] at ho; cases ho
    | some x0 =>
      rw [e0] at ho
      dsimp only at ho
      obtain ⟨v0, F1, Fi, F2, e3, _⟩ := st.ro.at e0
      refine ⟨v0, e3, runS2 (t := te) he st ho q fun re S1 y H1 Φ1 A1 T F1 G1 sp st1 rv nd fz q1 h1 => ?_⟩
      cases e1 : g (.bor i []) re S1 with
      | none => rw [e1] at h1; cases h1
      | some z =>
        obtain ⟨rz, S2⟩ := z
        rw [e1] at h1
        dsimp only at h1
        have rb : RV K Φ1 H1 A1 S1 σ v0 (.bor i []) [] := ⟨rfl, v0, e3, fun _ => rfl, fun _ _ => .nil⟩
        refine hg S1 σ H1 Φ1 A1 F1 G1 v0 y (.bor i []) re [] T st1 rb rv (by simpa using nd) rz S2 e1 _ fun v H' Φ' A' V F' G' s2 st2 rvz nd2 f2 => ?_
        have s2' : Step (T ++ F1) G1 H1 Φ1 A1 (V ++ F') G' H' Φ' A' := s2
        have s02 : Step F G H Φ A (V ++ F') G' H' Φ' A' := Step.trans (T := []) (T1 := V) (F1 := T ++ F1) sp s2'
        cases e4 : rz.kid S2 with
        | none => rw [e4] at h1; cases h1
        | some w =>
          obtain ⟨x, S3⟩ := w
          rw [e4] at h1
          obtain ⟨Φ3, F3, sp3, st3, rs3, fz3⟩ := kid_ok st2 rvz nd2 e4
          have nd3 : (V ++ (F3 ++ G')).Nodup := sp3.apart (fun b hb => (rvz.there b hb).1) nd2 st3.nd
          have h1 : (S3.put i x).map SO.nx = some out := h1
          unfold Sto.put at h1
          by_cases hi : i < S3.ρ.length
          · rw [if_pos hi] at h1; cases h1
            obtain ⟨F4, st4, hF⟩ := st3.set rs3 nd3 hi
            have s03 : Step F G H Φ A (V ++ F3) G' H' Φ3 A' := Step.trans (T1 := []) s02 sp3
            exact q (σ.set i (some v)) H' Φ3 A' F4 G' (s03.run.sub fun b hb => hb.imp_left fun h => by simpa using hF b h) st4
          · rw [if_neg hi] at h1; cases h1
theorem ds_aug {i : Nat} {x : Str} {op : Operator} {r : R2} {g : G2} {pos' : Pos} (hN : X.N.Nodup) (ho : OpR X (inplaceOp op) r) (hg : OpG X.K r g) (he : DE X W e te fe) (hi : X.N[i]? = some x := by rfl) (hx : Loc X.env.scope x := by first | exact Or.inl rfl | exact Or.inr rfl)
    (hf : X.fn x = true ∨ X.env.scope.names.lookup x = some .local := by first | exact .inl rfl | exact .inr rfl) : DS X W (.AugAssign (.Name x pos') op e pos) (tAug i te r) (fAug i g fe) := ⟨ps_aug hN hi hx he.pe ho hf, ev_aug hg he.ev⟩
def rAdd2 : R2 := fun x y H Q => rI0 (fun i j => .int (i + j)) x y H Q ∨ ∃ i j, x = .str i ∧ y = .str j ∧ i.length + j.length ≤ sizeLine ∧ Q (.str (i ++ j)) H
def gAdd2 : G2 := fun ra rb S => (g2 (dI iAdd) ra rb S).orElse fun _ => g2 sAdd ra rb S
theorem iop_add2 : OpR X (inplaceOp .Add) rAdd2 := iop_add.or iop_add_str
theorem og_add2 {K : PySem.W.Frag} : OpG K rAdd2 gAdd2 := og_addI.or og_addS
theorem ds_augAdd {i : Nat} {x : Str} {pos' : Pos} (hN : X.N.Nodup) (he : DE X W e te fe) (hi : X.N[i]? = some x := by rfl) (hx : Loc X.env.scope x := by first | exact Or.inl rfl | exact Or.inr rfl)
    (hf : X.fn x = true ∨ X.env.scope.names.lookup x = some .local := by first | exact .inl rfl | exact .inr rfl) : DS X W (.AugAssign (.Name x pos') .Add e pos) (tAug i te rAdd2) (fAug i gAdd2 fe) := ds_aug hN iop_add2 og_add2 he hi hx hf
theorem ds_augSub {i : Nat} {x : Str} {pos' : Pos} (hN : X.N.Nodup) (he : DE X W e te fe) (hi : X.N[i]? = some x := by rfl) (hx : Loc X.env.scope x := by first | exact Or.inl rfl | exact Or.inr rfl)
    (hf : X.fn x = true ∨ X.env.scope.names.lookup x = some .local := by first | exact .inl rfl | exact .inr rfl) : DS X W (.AugAssign (.Name x pos') .Sub e pos) (tAug i te (rI0 fun i j => .int (i - j))) (fAug i (g2 (dI iSub)) fe) := ds_aug hN iop_sub og_sub he hi hx hf
end
end L3

namespace L3
open PySem PySem.Spec PyProof.Rows L2

/-! ### the law's end: the script's list, the promise of the law's def -/
theorem rps_nums {K : PySem.W.Frag} {H : Hp} : ∀ ns : List Int, Rps K H (ns.map V.int) (ns.map D.int)
  | [] => .nil
  | _ :: ns => .cons (.int _) (rps_nums ns)
/-- the promise, from a heap in which at most the script is known -/
theorem end_call {P : Program} {w : World} {K : PySem.W.Frag} {mg mb : Str → Option Value} {k : Nat} {fa a : Addr} {fd : FuncData} {x : Str} {f : FnS} {μ : List SV} {s : Shared} {vs : List Value} {ns : List Int} {H : Hp}
    (kin : K.In s.heap) (glob : s.heap.Ns mainGlobals mg) (blt : s.heap.Ns builtinsNs mb) (boot : ∀ x : Str, x ≠ "__name__" → mb x = bootBuiltins x) (lim : s.heap.NoLimit) (gens : s.gens = #[])
    (room : Room k callerA) (F : ∀ base : Heap, K.In base → base.Ns mainGlobals mg → FG P w K mg base k fa fd [x] (spF K 1 f)) (bind : ∀ (s : Shared) (u : Value), BindsTo s fd ⟨[u], []⟩ [(x, u)])
    (val : f [.dat (.lst (ns.map D.int))] [] = some (.ok (.dat (.bl true)) μ))
    (script : s.heap.get? a = some { cls := .type "list", data := .seq vs.toArray }) (only : ∀ b u, H b = some u → b = a ∧ u = .frz { cls := .type "list", data := .seq vs.toArray } (.lst (ns.map V.int)))
    (sq : SqL K H a (ns.map V.int)) (ok : HOk P w H s.heap) (off : H a ≠ none → K.lookup a = none) :
    codeAny (model P w) callerA (.call (.ref fa) ⟨[.ref a], []⟩) (fun r s' => r = .ok (.ret (.bool true)) ∧ OldK s.heap s'.heap ∧ s'.os = s.os ∧ AllBare s'.gens) s := by
  have hide : ∀ {b : Addr} {o : Obj}, s.heap.get? b = some o → H b = none → (hidT s.heap H).get? b = some o := fun e z => hidT_get e z
  have dictOff : ∀ {b : Addr} {o : Obj} {es : Array DictEntry} {n : Nat}, s.heap.get? b = some o → o.data = .dict es n → H b = none := fun {b o es n} e d => by
    cases q : H b with
    | none => rfl
    | some u =>
      obtain ⟨rfl, _⟩ := only b u q
      rw [script] at e; cases e
      exact absurd d (by intro z; cases z)
  have space : ∀ {b : Addr} {m : Str → Option Value}, s.heap.Ns b m → (hidT s.heap H).Ns b m := fun {b m} ⟨o, es, n, e, d, r⟩ => ⟨o, es, n, hide e (dictOff e d), d, r⟩
  have kin' : K.In (hidT s.heap H) := fun b o e => by
    refine hide (kin b o e) ?_
    cases q : H b with
    | none => rfl
    | some u =>
      obtain ⟨rfl, _⟩ := only b u q
      have := off (by rw [q]; simp)
      rw [this] at e; cases e
  obtain ⟨mc, l1, l2⟩ := lim
  have modu : Mod K mg (hidT s.heap H) := ⟨kin', space glob, ⟨mb, space blt, boot⟩, ⟨mc, space l1, l2⟩⟩
  have env : Env0 P w K mg (hidT s.heap H) callerA [] s H := ⟨rfl, modu, fun b o e => of_hidT e, Nat.le_of_eq (hidT_size _ _), trivial, fun b hb => by simp [frs] at hb, ok, .of_eq gens⟩
  have st0 : Stands K ⟨[], []⟩ [] H H [] [] [] := ⟨Same.refl _, .nil, .nil, List.nodup_nil⟩
  have arg : RSs K H H [] [.ref a] [.dat (.lst (ns.map D.int))] [] := .cons (F := []) (.dat (.lst sq (rps_nums ns))) .nil
  have want : spF K 1 f [.ref a] H (fun v _ => v = .bl true) (fun _ _ _ => False) := by
    refine ⟨rfl, H, [], [], [], _, _, st0, arg, val, fun v H' Φ' A' T G' sp st rs nd => ?_⟩
    cases rs with
    | dat r => cases r; rfl
  refine codeAny_mono ((F _ kin' (space glob)).go callerA [] s H ⟨[.ref a], []⟩ [.ref a] [.ref a] _ _ room rfl env (bind s (.ref a)) (.cons rfl .nil) want) fun r s' post => ?_
  match r, post with
  | .error e, z => obtain ⟨_, _, _, _, _, _, _, _, _, _, _, _, bad⟩ := z; exact bad.elim
  | .ok .next, z => exact z.elim
  | .ok .brk, z => exact z.elim
  | .ok .cont, z => exact z.elim
  | .ok (.ret u), ⟨v, H', os, bare, un, ok', rel, ev⟩ =>
    have ev : v = .bl true := ev
    subst ev
    have eu : u = Value.bool true := rel
    subst eu
    refine ⟨rfl, OldK.of_keep fun b o e => ?_, os, bare⟩
    cases q : H b with
    | none => exact un.keep b o e q (by simp [frs]) (by simp)
    | some z =>
      obtain ⟨rfl, rfl⟩ := only b z q
      have later := un.frzs _ _ _ q
      obtain ⟨now, _⟩ := ok _ _ q
      rw [e] at now; cases now
      exact (ok' _ _ later).1
/-- what is left behind the head of a law, from the promise of its def -/
theorem end_walk {l : PySem.W.OpenLaw} {n k : Nat} {q : Program} {loose : List Str} {XP : (Str → Option Value) → Heap → Prop} {YP : World → Heap → Prop} {d : DefRec} {K : Params → PySem.W.Frag} {f : FnS} {x : Str}
    (hn : l.most = some n) (hz : n ≤ sizeLine) (hd : d.params.defaults = []) (room : Room k callerA) (hY : ∀ (w : World) (h : Heap), YP w h → (K w.params).In h)
    (F : ∀ (w : World) (mg : Str → Option Value) (fa : Addr) (h : Heap), (K w.params).In h → h.Ns mainGlobals mg → mg d.name = some (.ref fa) →
      ∃ fd : FuncData, (∀ (s : Shared) (u : Value), BindsTo s fd ⟨[u], []⟩ [(x, u)]) ∧ ∀ base : Heap, (K w.params).In base → base.Ns mainGlobals mg → FG l.prog w (K w.params) mg base k fa fd [x] (spF (K w.params) 1 f))
    (val : ∀ ns : List Int, ns.length ≤ n → (∀ i ∈ ns, Builtin.Int.intBits i ≤ 1048576) → ∃ μ, f [.dat (.lst (ns.map D.int))] [] = some (.ok (.dat (.bl true)) μ)) :
    PySem.W.WalkO q loose XP YP l.row.toRowW d [] (fun f vs => PySem.call f vs) := by
  refine Att.attach_callB hn hd fun w s₀ s mg mb fa o pm cd doc a vs ns G Y ho hdat hcd hmg script hints hlen hbits hg => ?_
  obtain ⟨fd, bind, promise⟩ := F w mg fa _ (hY w _ Y) G.T.g hmg
  obtain ⟨μ, ev⟩ := val ns hlen hbits
  have rv := vals_ints hints
  have lv := hints.length
  have hl : ns.length ≤ sizeLine := Nat.le_trans hlen hz
  have go := fun H => end_call (H := H) (hY w _ Y) G.T.g G.T.b G.T.builtins G.T.nolimit hg room promise bind ev script
  cases hk : (K w.params).lookup a with
  | some ob =>
    have e := hY w _ Y a ob hk
    rw [script] at e; cases e
    exact go (fun _ => none) (fun b u z => nomatch z) (.inr ⟨_, vs.toArray, _, hk, rfl, rfl, rfl, by rw [List.size_toArray, lv]; exact hl, by simpa using rv⟩) (fun b u z => nomatch z) fun z => absurd rfl z
  | none =>
    have at_ : (fun b => if b = a then some (HO.frz { cls := .type "list", data := .seq vs.toArray } (.lst (ns.map V.int))) else none : Hp) a = some (.frz { cls := .type "list", data := .seq vs.toArray } (.lst (ns.map V.int))) := if_pos rfl
    have inv : ∀ b u, (fun b => if b = a then some (HO.frz { cls := .type "list", data := .seq vs.toArray } (.lst (ns.map V.int))) else none : Hp) b = some u → b = a ∧ u = .frz { cls := .type "list", data := .seq vs.toArray } (.lst (ns.map V.int)) := fun b u z => by
      by_cases hb : b = a
      · subst hb; rw [at_] at z; cases z; exact ⟨rfl, rfl⟩
      · exact absurd ((if_neg hb).symm.trans z) (by simp)
    refine go _ inv (.inl (.inr ⟨_, at_⟩)) (fun b u z => ?_) fun _ => hk
    obtain ⟨rfl, rfl⟩ := inv b u z
    exact ⟨script, by rw [List.length_map]; exact hl, vs, _, rv, script⟩
end L3

namespace L3
open PySem PySem.Spec PyProof.Rows L2

/-! ### a def of the text, by its name -/
structure Df (P : Program) (w : World) (K : PySem.W.Frag) (mg : Str → Option Value) (base : Heap) (k : Nat) (x : Str) (n : Nat) (F : FnS) (dvs : List V) (dfl : List SV) : Prop where
  ex : ∃ (f : Addr) (fd : FuncData) (ps : List Str) (ds : List Value), mg x = some (.ref f) ∧ PySem.W.keepIn K (.ref f) = true ∧ Binds K fd ps ds ∧ Vals dvs ds ∧ Dfl K dvs dfl ∧ FG P w K mg base k f fd ps (spF K n F)
  len : ∀ as μ res, F as μ = some res → as.length = n
theorem df_of {P : Program} {w : World} {K : PySem.W.Frag} {mg : Str → Option Value} {base : Heap} {k m n : Nat} {x : Str} {fb : FS} {f : Addr} {fd : FuncData} {ps : List Str} (h : FG P w K mg base k f fd ps (spF K n (runF n m fb))) (hm : mg x = some (.ref f)) (hk : PySem.W.keepIn K (.ref f) = true) (bd : Binds K fd ps []) :
    Df P w K mg base k x n (runF n m fb) [] [] := ⟨⟨f, fd, ps, [], hm, hk, bd, .nil, dfl_nil, h⟩, runF_len⟩
section
variable {X : Cx} {W : WX} {a b e : Expr} {es : List Expr} {p pos : Pos} {ta tb te : TE} {t : TA} {fa fb fe : FE} {fA : FA} {k k' n : Nat} {x : Str} {F : FnS} {dvs : List V} {dfl : List SV}
theorem de_call (D : Df X.prog X.w X.K X.mg X.base k x n F dvs dfl) (room : Room k' X.A) (gd : X.A.guards = some []) (ha : DA X W (e :: es) t fA) (le : k ≤ k' := by decide) (tk : Takes X W := by first | exact takes0 | exact takes_of rfl rfl rfl rfl)
    (hg : Gl X x := by rfl) (hdb : (x == ("__debug__" : Str)) = false := by decide) (he : starEach (e :: es) X.env = (false, eval e X.env) :: starEach es X.env := by rfl) (hpl : (backTo pos (starEach es X.env)).any (·.1) = false := by rfl) : DE X W (.Call (.Name x p) (e :: es) [] pos) (tGo W (spF X.K n F) dvs t) (fGo F dfl fA) := by
  obtain ⟨f, fd, ps, ds, hm, hk, bd, dd, hd, h⟩ := D.ex
  exact de_go h D.len (room.mono le) gd hm hk bd dd hd tk ha hg hdb he hpl
abbrev rTupOf (K : PySem.W.Frag) : List V → Hp → VK → Prop := fun xs H Q => ∃ p ys, xs = [.ref p] ∧ ((SqL K H p ys ∧ ∀ l, H l = none → Q (.ref l) (upd H l (.tup ys))) ∨ (SqT K H p ys ∧ Q (.ref p) H))
abbrev rLstOf (K : PySem.W.Frag) : List V → Hp → VK → Prop := fun xs H Q => ∃ p ys, xs = [.ref p] ∧ (SqL K H p ys ∨ SqT K H p ys) ∧ ∀ l, H l = none → Q (.ref l) (upd H l (.lst ys))
abbrev rLenP (K : PySem.W.Frag) : List V → Hp → VK → Prop := fun xs H Q => ∃ x n, xs = [x] ∧ LenV K x H n ∧ Q (.int n) H
abbrev rMax2 : List V → Hp → VK → Prop := fun xs H Q => ∃ i j, xs = [.int i, .int j] ∧ Q (.int (if j > i then j else i)) H
abbrev rMin2 : List V → Hp → VK → Prop := fun xs H Q => ∃ i j, xs = [.int i, .int j] ∧ Q (.int (if j < i then j else i)) H
theorem de_len (hm : X.mg "len" = none) (ha : DA X W (e :: es) t fA) (hg : Gl X "len" := by rfl) (he : starEach (e :: es) X.env = (false, eval e X.env) :: starEach es X.env := by rfl) (hpl : (backTo pos (starEach es X.env)).any (·.1) = false := by rfl) : DE X W (.Call (.Name "len" p) (e :: es) [] pos) (tCB (rLenP X.K) t) (fB (gD lenD) fA) := de_B call_len bok_len PySem.boot_len hm ha hg (by decide) (by decide) he hpl
theorem de_max2 (hc : X.calm = true) (hm : X.mg "max" = none) (ha : DA X W (e :: es) t fA) (hg : Gl X "max" := by rfl) (he : starEach (e :: es) X.env = (false, eval e X.env) :: starEach es X.env := by rfl) (hpl : (backTo pos (starEach es X.env)).any (·.1) = false := by rfl) : DE X W (.Call (.Name "max" p) (e :: es) [] pos) (tCB rMax2 t) (fB (gD max2D) fA) := de_B (call_max2 hc) bok_max2 (by decide +kernel) hm ha hg (by decide) (by decide) he hpl
theorem de_min2 (hc : X.calm = true) (hm : X.mg "min" = none) (ha : DA X W (e :: es) t fA) (hg : Gl X "min" := by rfl) (he : starEach (e :: es) X.env = (false, eval e X.env) :: starEach es X.env := by rfl) (hpl : (backTo pos (starEach es X.env)).any (·.1) = false := by rfl) : DE X W (.Call (.Name "min" p) (e :: es) [] pos) (tCB rMin2 t) (fB (gD min2D) fA) := de_B (call_min2 hc) bok_min2 (by decide +kernel) hm ha hg (by decide) (by decide) he hpl
theorem de_sum (hc : X.calm = true) (hm : X.mg "sum" = none) (ha : DA X W (e :: es) t fA) (hg : Gl X "sum" := by rfl) (he : starEach (e :: es) X.env = (false, eval e X.env) :: starEach es X.env := by rfl) (hpl : (backTo pos (starEach es X.env)).any (·.1) = false := by rfl) : DE X W (.Call (.Name "sum" p) (e :: es) [] pos) (tCB (rSum X.K) t) (fB (gD sumD) fA) := de_B (cr_sum hc) bok_sum (by decide +kernel) hm ha hg (by decide) (by decide) he hpl
theorem de_repr (gd : X.A.guards = some []) (hu : X.A.units + 65 < cLine) (hm : X.mg "repr" = none) (ha : DA X W (e :: es) t fA) (hg : Gl X "repr" := by rfl) (he : starEach (e :: es) X.env = (false, eval e X.env) :: starEach es X.env := by rfl) (hpl : (backTo pos (starEach es X.env)).any (·.1) = false := by rfl) : DE X W (.Call (.Name "repr" p) (e :: es) [] pos) (tCB (rRepr X.K) t) (fB (gD reprD) fA) := de_B (cr_repr gd hu) bok_repr (by decide +kernel) hm ha hg (by decide) (by decide) he hpl
theorem de_tuple (hm : X.mg "tuple" = none) (ha : DA X W (e :: es) t fA) (hg : Gl X "tuple" := by rfl) (he : starEach (e :: es) X.env = (false, eval e X.env) :: starEach es X.env := by rfl) (hpl : (backTo pos (starEach es X.env)).any (·.1) = false := by rfl) : DE X W (.Call (.Name "tuple" p) (e :: es) [] pos) (tCB (rTupOf X.K) t) (fB gTupOf fA) := de_BT call_tuple_of bok_tupOf (by decide +kernel) hm ha hg (by decide) (by decide) he hpl
theorem de_list (hm : X.mg "list" = none) (ha : DA X W (e :: es) t fA) (hg : Gl X "list" := by rfl) (he : starEach (e :: es) X.env = (false, eval e X.env) :: starEach es X.env := by rfl) (hpl : (backTo pos (starEach es X.env)).any (·.1) = false := by rfl) : DE X W (.Call (.Name "list" p) (e :: es) [] pos) (tCB (rLstOf X.K) t) (fB gLstOf fA) := de_BT call_list_of bok_lstOf (by decide +kernel) hm ha hg (by decide) (by decide) he hpl
theorem de_isN (ha : DE X W a ta fa) (hb : DE X W b tb fb) (hm : behindInMarks .Is b = false := by rfl) : DE X W (.Compare a [.Is] [b] pos) (tOp (fun x y H Q => y = .non ∧ Q (.bl (decide (x = .non))) H) ta tb) (fBin (gIs false) fa fb) := de_cmp op_isN og_isN ha hb hm
theorem dt_isN (ha : DE X W a ta fa) (hb : DE X W b tb fb) (hm : behindInMarks .Is b = false := by rfl) : DT X W (.Compare a [.Is] [b] pos) (tTest (tOp (fun x y H Q => y = .non ∧ Q (.bl (decide (x = .non))) H) ta tb)) (fTest (fBin (gIs false) fa fb)) := dt_cmp op_isN og_isN ha hb hm
end
theorem units_of {k : Nat} {A : Around} (r : Room k A) : A.units + 65 < cLine := by have := r.un; omega
theorem unit1_of {k : Nat} {A : Around} (r : Room k A) : A.units + 1 < cLine := by have := r.un; omega
end L3

namespace L3
open PySem PySem.Spec PyProof.Rows L2

/-! ### what the functions give: told backwards -/
/-- what simp is to leave as it is -/
inductive Dep {α : Sort u} (x : α) : Type | mk
def Ob {α : Type} (o : Option α) (k : α → Prop) (_ : Dep k := .mk) : Prop := ∃ x, o = some x ∧ k x
def Gb {α β : Type} (o : Option (α × β)) (k : α → β → Prop) (_ : Dep k := .mk) : Prop := ∃ x y, o = some (x, y) ∧ k x y
def Wb {α : Type} (f : Sto → Option (Out α)) (S : Sto) (Q : α → Sto → Prop) (X : Ex → Sto → Prop) (_ : Dep f := .mk) (_ : Dep Q := .mk) (_ : Dep X := .mk) : Prop := ∃ r, f S = some r ∧ match r with
  | .ok a S' => Q a S'
  | .exc e S' => X e S'
def Ws (f : FS) (S : Sto) (P : SO → Prop) (_ : Dep f := .mk) (_ : Dep P := .mk) : Prop := ∃ o, f S = some o ∧ P o
def Wf (F : FnS) (as : List SV) (μ : List SV) (Q : SV → List SV → Prop) (X : Ex → List SV → Prop) (_ : Dep Q := .mk) (_ : Dep X := .mk) : Prop := ∃ r, F as μ = some r ∧ match r with
  | .ok x μ' => Q x μ'
  | .exc e μ' => X e μ'
section
variable {α β γ : Type} {k : α → Prop} {kk : α → β → Prop} {x : α} {y : β}
@[simp] theorem ob_some : Ob (some x) k = k x := by unfold Ob; simp
@[simp] theorem ob_none : Ob none k = False := by unfold Ob; simp
@[simp] theorem gb_some : Gb (some (x, y)) kk = kk x y := propext ⟨fun ⟨a, b, e, q⟩ => by cases e; exact q, fun q => ⟨x, y, rfl, q⟩⟩
@[simp] theorem gb_some' {z : α × β} : Gb (some z) kk = kk z.1 z.2 := by obtain ⟨a, b⟩ := z; simp
@[simp] theorem gb_none : Gb none kk = False := by unfold Gb; simp
@[simp] theorem ob_if {c : Prop} [Decidable c] {o : Option α} : Ob (if c then o else none) k = (c ∧ Ob o k) := by
  by_cases h : c <;> simp [h]
@[simp] theorem gb_if {c : Prop} [Decidable c] {o : Option (α × β)} : Gb (if c then o else none) kk = (c ∧ Gb o kk) := by
  by_cases h : c <;> simp [h]
@[simp] theorem gb_ifn {c : Prop} [Decidable c] {o : Option (α × β)} : Gb (if c then none else o) kk = (¬c ∧ Gb o kk) := by
  by_cases h : c <;> simp [h]
@[simp] theorem gb_map {o : Option γ} {f : γ → α × β} : Gb (o.map f) kk = Ob o fun z => kk (f z).1 (f z).2 := by cases o <;> simp
@[simp] theorem ob_map {o : Option γ} {f : γ → α} : Ob (o.map f) k = Ob o fun z => k (f z) := by cases o <;> simp
@[simp] theorem gb_bind {o : Option γ} {f : γ → Option (α × β)} : Gb (o.bind f) kk = Ob o fun z => Gb (f z) kk := by cases o <;> simp
@[simp] theorem ob_bind {o : Option γ} {f : γ → Option α} : Ob (o.bind f) k = Ob o fun z => Ob (f z) k := by cases o <;> simp
end
section
variable {α β : Type} {f : Sto → Option (Out α)} {g : α → Sto → Option (Out β)} {S S' : Sto} {Q : α → Sto → Prop} {Q2 : β → Sto → Prop} {X : Ex → Sto → Prop} {P : SO → Prop}
theorem wb_ext {Q' : α → Sto → Prop} (h : ∀ a S, Q a S = Q' a S) : Wb f S Q X = Wb f S Q' X := by
  have : Q = Q' := funext fun a => funext fun S => h a S
  subst this; rfl
theorem wb_ok {a : α} (h : f S = some (.ok a S')) : Wb f S Q X = Q a S' := by unfold Wb; rw [h]; simp
theorem wb_mono {Q' : α → Sto → Prop} {X' : Ex → Sto → Prop} (h : Wb f S Q X) (hQ : ∀ a S', Q a S' → Q' a S') (hX : ∀ e S', X e S' → X' e S') : Wb f S Q' X' := by
  obtain ⟨r, e, q⟩ := h
  refine ⟨r, e, ?_⟩
  cases r with
  | ok a S1 => exact hQ _ _ q
  | exc e S1 => exact hX _ _ q
theorem ws_mono {f : FS} {P' : SO → Prop} (h : Ws f S P) (hP : ∀ o, P o → P' o) : Ws f S P' := by
  obtain ⟨r, e, q⟩ := h
  exact ⟨r, e, hP _ q⟩
theorem wf_mono {F : FnS} {as : List SV} {μ : List SV} {Q Q' : SV → List SV → Prop} {X X' : Ex → List SV → Prop} (h : Wf F as μ Q X) (hQ : ∀ a S', Q a S' → Q' a S') (hX : ∀ e S', X e S' → X' e S') : Wf F as μ Q' X' := by
  obtain ⟨r, e, q⟩ := h
  refine ⟨r, e, ?_⟩
  cases r with
  | ok a S1 => exact hQ _ _ q
  | exc e S1 => exact hX _ _ q
@[simp] theorem wb_bind : Wb (bindE f g) S Q2 X = Wb f S (fun a S1 => Wb (g a) S1 Q2 X) X := by
  unfold Wb bindE
  cases e : f S with
  | none => simp
  | some r => cases r <;> simp
@[simp] theorem wb_ret {a : α} : Wb (retE a) S Q X = Q a S := by unfold Wb retE; simp
end
section
variable {S S' : Sto} {Q : R → Sto → Prop} {QT : Bool → Sto → Prop} {QA : List R → Sto → Prop} {QI : List D → Sto → Prop} {X : Ex → Sto → Prop} {P : SO → Prop} {fa fb fe fo fi : FE} {ft fu : FT} {fA : FA} {f g : FS} {i : Nat} {d : D} {ρ : List (Option SV)} {μ : List SV}
@[simp] theorem wb_var : Wb (fVar i) ⟨ρ, μ⟩ Q X = Ob (ρ[i]?) fun o => Ob o fun _ => Q (.bor i []) ⟨ρ, μ⟩ := by
  unfold Wb fVar
  cases e : ρ[i]? with
  | none => simp [e]
  | some o => cases o <;> simp [e]
@[simp] theorem wb_c : Wb (fC d) S Q X = Q (.d d) S := by unfold Wb fC; simp
theorem wb_of {h : Sto → Option (R × Sto)} : Wb (fun S => (h S).map fun z => .ok z.1 z.2) S Q X = Gb (h S) Q := by
  unfold Wb
  cases e : h S <;> simp [e]
@[simp] theorem wb_bin {g : G2} : Wb (fBin g fa fb) S Q X = Wb fa S (fun ra S1 => Wb fb S1 (fun rb S2 => Gb (g ra rb S2) Q) X) X := by
  unfold fBin; rw [wb_bind]; refine wb_ext fun ra S1 => ?_; rw [wb_bind]; refine wb_ext fun rb S2 => ?_; exact wb_of (h := fun S => g ra rb S)
@[simp] theorem wb_B {g : GB} : Wb (fB g fA) S Q X = Wb fA S (fun rs S1 => Gb (g rs S1) Q) X := by
  unfold fB; rw [wb_bind]; refine wb_ext fun rs S1 => ?_; exact wb_of (h := fun S => g rs S)
@[simp] theorem wb_test : Wb (fTest fe) S QT X = Wb fe S (fun r S1 => Ob (r.bl S1) fun b => QT b S1) X := by
  unfold fTest; rw [wb_bind]; refine wb_ext fun r S1 => ?_
  unfold Wb; cases e : r.bl S1 <;> simp [e]
@[simp] theorem wb_tru : Wb (fTru fe) S QT X = Wb fe S (fun r S1 => Ob (r.tru S1) fun b => QT b S1) X := by
  unfold fTru; rw [wb_bind]; refine wb_ext fun r S1 => ?_
  unfold Wb; cases e : r.tru S1 <;> simp [e]
/-- a branch -/
def br (b : Bool) (p q : Prop) (_ : Dep p := .mk) (_ : Dep q := .mk) : Prop := if b = true then p else q
@[simp] theorem br_t {p q : Prop} : br true p q = p := if_pos rfl
@[simp] theorem br_f {p q : Prop} : br false p q = q := if_neg (by decide)
@[simp] theorem br_dec {c : Prop} [Decidable c] {p q : Prop} : br (decide c) p q = ((c → p) ∧ (¬c → q)) := by
  by_cases h : c <;> simp [h]
@[simp] theorem br_not {b : Bool} {p q : Prop} : br (!b) p q = br b q p := by cases b <;> simp
theorem br_of {b : Bool} {p q : Prop} (h1 : b = true → p) (h2 : b = false → q) : br b p q := by cases b <;> simp_all
@[simp] theorem wb_and : Wb (fAnd ft fu) S QT X = Wb ft S (fun b S1 => br b (Wb fu S1 QT X) (QT false S1)) X := by
  unfold fAnd; rw [wb_bind]; refine wb_ext fun b S1 => ?_; cases b <;> simp
@[simp] theorem wb_or : Wb (fOr ft fu) S QT X = Wb ft S (fun b S1 => br b (QT true S1) (Wb fu S1 QT X)) X := by
  unfold fOr; rw [wb_bind]; refine wb_ext fun b S1 => ?_; cases b <;> simp
@[simp] theorem wb_not : Wb (fNot ft) S QT X = Wb ft S (fun b S1 => QT (!b) S1) X := by unfold fNot; rw [wb_bind]; refine wb_ext fun b S1 => ?_; simp
@[simp] theorem wb_ifE : Wb (fIfE ft fa fb) S Q X = Wb ft S (fun b S1 => br b (Wb fa S1 Q X) (Wb fb S1 Q X)) X := by
  unfold fIfE; rw [wb_bind]; refine wb_ext fun b S1 => ?_; cases b <;> simp
@[simp] theorem wb_orV : Wb (fOrV fa fb) S Q X = Wb fa S (fun r S1 => Ob (r.tru S1) fun b => br b (Q r S1) (Wb fb S1 Q X)) X := by
  unfold fOrV; rw [wb_bind]; refine wb_ext fun r S1 => ?_
  unfold Wb; cases e : r.tru S1 with
  | none => simp [e]
  | some b => cases b <;> simp [e]
@[simp] theorem wb_andV : Wb (fAndV fa fb) S Q X = Wb fa S (fun r S1 => Ob (r.tru S1) fun b => br b (Wb fb S1 Q X) (Q r S1)) X := by
  unfold fAndV; rw [wb_bind]; refine wb_ext fun r S1 => ?_
  unfold Wb; cases e : r.tru S1 with
  | none => simp [e]
  | some b => cases b <;> simp [e]
@[simp] theorem wb_notV : Wb (fNotV fa) S Q X = Wb fa S (fun r S1 => Ob (r.tru S1) fun b => Q (.b (!b)) S1) X := by
  unfold fNotV; rw [wb_bind]; refine wb_ext fun r S1 => ?_
  unfold Wb; cases e : r.tru S1 <;> simp [e]
@[simp] theorem wb_nil : Wb fNil S QA X = QA [] S := by unfold Wb fNil; simp
@[simp] theorem wb_cons {fA : FA} : Wb (fCons fe fA) S QA X = Wb fe S (fun r S1 => Wb fA S1 (fun rs S2 => QA (r :: rs) S2) X) X := by
  unfold fCons; rw [wb_bind]; refine wb_ext fun r S1 => ?_; rw [wb_bind]; refine wb_ext fun rs S2 => ?_; rw [wb_ret]
@[simp] theorem wb_tup : Wb (fTup fA) S Q X = Wb fA S (fun rs S1 => rs.length ≤ 1000 ∧ Gb (escs rs S1) fun ds S2 => Q (.d (.tup ds)) S2) X := by
  unfold fTup; rw [wb_bind]; refine wb_ext fun rs S1 => ?_
  unfold Wb
  by_cases h : rs.length ≤ 1000
  · cases e : escs rs S1 <;> simp [h, e]
  · simp [h]
@[simp] theorem wb_lst : Wb (fLst fA) S Q X = Wb fA S (fun rs S1 => rs.length ≤ 1000 ∧ Gb (kids rs S1) fun xs S2 => Q (.val (.own xs)) S2) X := by
  unfold fLst; rw [wb_bind]; refine wb_ext fun rs S1 => ?_
  unfold Wb
  by_cases h : rs.length ≤ 1000
  · cases e : kids rs S1 <;> simp [h, e]
  · simp [h]
@[simp] theorem wb_frz : Wb (fFrz fe) S Q X = Wb fe S (fun r S1 => Gb (r.esc S1) fun d S2 => Q (.d d) S2) X := by
  unfold fFrz; rw [wb_bind]; refine wb_ext fun r S1 => ?_
  unfold Wb; cases e : r.esc S1 <;> simp [e]
@[simp] theorem wb_neg : Wb (fNeg fe) S Q X = Wb fe S (fun r S1 => Ob (r.peek S1) fun d => Ob (negD d) fun z => Q (.d z) S1) X := by
  unfold fNeg; rw [wb_bind]; refine wb_ext fun r S1 => ?_
  unfold Wb; cases e : r.peek S1 with
  | none => simp [e]
  | some d => cases e2 : negD d <;> simp [e, e2]
@[simp] theorem wb_go {F : FnS} {dfl : List SV} : Wb (fGo F dfl fA) S Q X = Wb fA S (fun rs S1 => Gb (argsOf rs S1) fun as S2 => Wf F (as ++ dfl) S2.μ (fun x μ' => Q (.val x) ⟨S2.ρ, μ'⟩) (fun e μ' => X e ⟨S2.ρ, μ'⟩)) X := by
  unfold fGo; rw [wb_bind]; refine wb_ext fun rs S1 => ?_
  unfold Wb Wf
  cases e : argsOf rs S1 with
  | none => simp [e]
  | some z =>
    obtain ⟨as, S2⟩ := z
    simp only [e, gb_some]
    cases e2 : F (as ++ dfl) S2.μ with
    | none => simp
    | some r => cases r <;> simp
@[simp] theorem wb_m1 {g : G2} : Wb (fM1 g fo fe) S Q X = Wb fo S (fun ro S1 => ((ro.peek S1).map isStr) = some true ∧ Wb fe S1 (fun re S2 => Gb (g ro re S2) Q) X) X := by
  unfold fM1; rw [wb_bind]; refine wb_ext fun ro S1 => ?_
  by_cases h : ((ro.peek S1).map isStr) = some true
  · simp only [h, if_true, true_and]
    have e : Wb (fun S => if True then bindE fe (fun re S2 => (g ro re S2).map fun z => Out.ok z.1 z.2) S1 else none) S1 Q X = Wb (bindE fe (fun re S2 => (g ro re S2).map fun z => Out.ok z.1 z.2)) S1 Q X := by unfold Wb; simp
    have e2 : Wb (fun S1 => if ((ro.peek S1).map isStr) = some true then bindE fe (fun re S2 => (g ro re S2).map fun z => Out.ok z.1 z.2) S1 else none) S1 Q X = Wb (bindE fe (fun re S2 => (g ro re S2).map fun z => Out.ok z.1 z.2)) S1 Q X := by unfold Wb; simp [h]
    rw [e2, wb_bind]; refine wb_ext fun re S2 => ?_; exact wb_of (h := fun S => g ro re S)
  · unfold Wb; simp [h]
/-- what a datum is walked as -/
def itsD : D → Option (List D)
  | .lst ds => some ds
  | .tup ds => some ds
  | .str x => some (signs x)
  | _ => none
@[simp] theorem itsD_l {ds : List D} : itsD (.lst ds) = some ds := rfl
@[simp] theorem itsD_t {ds : List D} : itsD (.tup ds) = some ds := rfl
@[simp] theorem itsD_s {x : Str} : itsD (.str x) = some (signs x) := rfl
@[simp] theorem wb_items : Wb (fItems fe) S QI X = Wb fe S (fun r S1 => Gb (r.esc S1) fun d S2 => Ob (itsD d) fun ds => QI ds S2) X := by
  unfold fItems; rw [wb_bind]; refine wb_ext fun r S1 => ?_
  unfold Wb
  cases e : r.esc S1 with
  | none => simp [e]
  | some z => obtain ⟨d, S2⟩ := z; cases d <;> simp [e, itsD]
@[simp] theorem wb_range {g : List D → Option (List D)} : Wb (fRange g fA) S QI X = Wb fA S (fun rs S1 => Ob (peeksR rs S1) fun ds => Ob (g ds) fun is => QI is S1) X := by
  unfold fRange; rw [wb_bind]; refine wb_ext fun r S1 => ?_
  unfold Wb
  cases e : peeksR r S1 with
  | none => simp [e]
  | some ds => cases e2 : g ds <;> simp [e, e2]
def fCompTail (tg : Tg) (ft : FT) (fe : FE) (vs : List Nat) (ds : List D) (S : Sto) (Q : R → Sto → Prop) : Prop := Gb (compF tg ft fe vs ds [] (S.wipe vs)) fun acc S1 => Q (.val (.own acc)) S1
@[simp] theorem wb_comp {tg : Tg} {fi : FI} {vs : List Nat} : Wb (fComp tg fi ft fe vs) S Q X = Wb fi S (fun ds S1 => fCompTail tg ft fe vs ds S1 Q) X := by
  unfold fComp fCompTail; rw [wb_bind]; refine wb_ext fun ds S1 => ?_
  unfold Wb
  cases e : compF tg ft fe vs ds [] (S1.wipe vs) with
  | none => simp [e]
  | some z => obtain ⟨acc, S2⟩ := z; simp [e]
@[simp] theorem wb_sl {lo hi : Option FE} : Wb (fSl fa lo hi) S Q X = Wb fa S (fun ra S1 => Wb (fPart lo) S1 (fun l S2 => Wb (fPart hi) S2 (fun h S3 => Gb (gSl ra l h S3) Q) X) X) X := by
  unfold fSl; rw [wb_bind]; refine wb_ext fun ra S1 => ?_; rw [wb_bind]; refine wb_ext fun l S2 => ?_; rw [wb_bind]; refine wb_ext fun h S3 => ?_; exact wb_of (h := fun S => gSl ra l h S)
@[simp] theorem wb_part0 {Q : Option Int → Sto → Prop} : Wb (fPart none) S Q X = Q none S := by unfold Wb fPart; simp
@[simp] theorem wb_part1 {Q : Option Int → Sto → Prop} : Wb (fPart (some fe)) S Q X = Wb fe S (fun r S1 => Ob (r.peek S1) fun d => Ob (intOf d) fun i => Q (some i) S1) X := by
  unfold fPart; rw [wb_bind]; refine wb_ext fun r S1 => ?_
  unfold Wb
  cases e : r.peek S1 with
  | none => simp [e]
  | some d => cases e2 : intOf d <;> simp [e, e2]
@[simp] theorem wb_yes : Wb fYes S QT X = QT true S := by unfold fYes; simp
@[simp] theorem wb_pairs0 {Q : List (Key × R) → Sto → Prop} : Wb (fPairs []) S Q X = Q [] S := (show Wb (retE []) S Q X = _ from wb_ret)
@[simp] theorem wb_pairs {fk fv : FE} {r : List (FE × FE)} {Q : List (Key × R) → Sto → Prop} : Wb (fPairs ((fk, fv) :: r)) S Q X = Wb fk S (fun rk S1 => Ob (rk.peek S1) fun d => Ob (d.key) fun k => Wb fv S1 (fun rv S2 => Wb (fPairs r) S2 (fun ps S3 => Q ((k, rv) :: ps) S3) X) X) X := by
  refine Eq.trans (b := Wb (bindE fk fun rk S1 => match (rk.peek S1).bind D.key with | some k => bindE fv (fun rv => bindE (fPairs r) fun ps => retE ((k, rv) :: ps)) S1 | none => none) S Q X) rfl ?_
  rw [wb_bind]; refine wb_ext fun rk S1 => ?_
  cases e : rk.peek S1 with
  | none => unfold Wb; simp [e]
  | some d =>
    cases e2 : d.key with
    | none => unfold Wb; simp [e, e2]
    | some k =>
      have e3 : Wb (fun S1 => match (rk.peek S1).bind D.key with
        | some k => bindE fv (fun rv => bindE (fPairs r) fun ps => retE ((k, rv) :: ps)) S1
        | none => none) S1 Q X = Wb (bindE fv (fun rv => bindE (fPairs r) fun ps => retE ((k, rv) :: ps))) S1 Q X := by unfold Wb; simp [e, e2]
      refine e3.trans ?_; simp only [e2, ob_some]; rw [wb_bind]; refine wb_ext fun rv S2 => ?_; rw [wb_bind]; refine wb_ext fun ps S3 => ?_; rw [wb_ret]
@[simp] theorem wb_disp {fps : List (FE × FE)} : Wb (fDisp fps) S Q X = Wb (fPairs fps) S (fun kr S1 => ((kr.map (·.1)).Nodup ∧ kr.length ≤ 15) ∧ Gb (kids (kr.map (·.2)) S1) fun xs S2 => Q (.val (.node (.dK (kr.map (·.1))) xs)) S2) X := by
  unfold fDisp; rw [wb_bind]; refine wb_ext fun kr S1 => ?_
  unfold Wb
  by_cases h : (kr.map (·.1)).Nodup ∧ kr.length ≤ 15
  · cases e : kids (kr.map (·.2)) S1 <;> simp [h, e]
  · simp [h]
@[simp] theorem wb_dnew {n : Nd} : Wb (fDNew n) S Q X = Q (.val (.node n [])) S := by unfold Wb fDNew; simp
/-! statements -/
def sq (g : FS) (P : SO → Prop) (o : SO) : Prop := match o with
  | .nx S => Ws g S P
  | o => P o
@[simp] theorem sq_nx : sq g P (.nx S) = Ws g S P := rfl
@[simp] theorem sq_rt {x : SV} : sq g P (.rt x μ) = P (.rt x μ) := rfl
@[simp] theorem sq_bk : sq g P (.bk S) = P (.bk S) := rfl
@[simp] theorem sq_ct : sq g P (.ct S) = P (.ct S) := rfl
@[simp] theorem sq_exc {e : Ex} : sq g P (.exc e S) = P (.exc e S) := rfl
@[simp] theorem ws_seq : Ws (fSeq f g) S P = Ws f S (sq g P) := by
  unfold Ws fSeq
  cases e : f S with
  | none => simp
  | some o => cases o <;> simp [sq, Ws]
theorem ws_bind {α : Type} {f : Sto → Option (Out α)} {k : α → FS} : Ws (bindS f k) S P = Wb f S (fun a S1 => Ws (k a) S1 P) (fun e S1 => P (.exc e S1)) := by
  unfold Ws bindS Wb
  cases e : f S with
  | none => simp
  | some o => cases o <;> simp
@[simp] theorem ws_next : Ws fNext S P = P (.nx S) := by unfold Ws fNext; simp
@[simp] theorem ws_brk : Ws fBrk S P = P (.bk S) := by unfold Ws fBrk; simp
@[simp] theorem ws_cont : Ws fCont S P = P (.ct S) := by unfold Ws fCont; simp
@[simp] theorem ws_expr : Ws (fExpr fe) S P = Wb fe S (fun _ S1 => P (.nx S1)) (fun e S1 => P (.exc e S1)) := by
  unfold fExpr; rw [ws_bind]; refine wb_ext fun r S1 => ?_; unfold Ws; simp
@[simp] theorem ws_ret : Ws (fRet fe) S P = Wb fe S (fun r S1 => Ob (r.sv S1) fun x => P (.rt x S1.μ)) (fun e S1 => P (.exc e S1)) := by
  unfold fRet; rw [ws_bind]; refine wb_ext fun r S1 => ?_; unfold Ws; cases e : r.sv S1 <;> simp [e]
@[simp] theorem ws_retN : Ws fRetN S P = P (.rt (.dat .non) S.μ) := by unfold Ws fRetN; simp
@[simp] theorem ws_if : Ws (fIf ft f g) S P = Wb ft S (fun b S1 => br b (Ws f S1 P) (Ws g S1 P)) (fun e S1 => P (.exc e S1)) := by
  unfold fIf; rw [ws_bind]; refine wb_ext fun b S1 => ?_; cases b <;> simp
@[simp] theorem ws_set : Ws (fSet i fe) S P = Wb fe S (fun r S1 => Gb (r.kid S1) fun x S2 => Ob (S2.put i x) fun S3 => P (.nx S3)) (fun e S1 => P (.exc e S1)) := by
  unfold fSet; rw [ws_bind]; refine wb_ext fun r S1 => ?_; unfold Ws
  cases e : r.kid S1 with
  | none => simp [e]
  | some z => obtain ⟨x, S2⟩ := z; cases e2 : S2.put i x <;> simp [e, e2]
@[simp] theorem ws_asg {tg : Tg} : Ws (fAsg tg fe) S P = Wb fe S (fun r S1 => Gb (r.esc S1) fun d S2 => Ob (tgS tg d S2.ρ) fun ρ => P (.nx ⟨ρ, S2.μ⟩)) (fun e S1 => P (.exc e S1)) := by
  unfold fAsg; rw [ws_bind]; refine wb_ext fun r S1 => ?_; unfold Ws
  cases e : r.esc S1 with
  | none => simp [e]
  | some z => obtain ⟨x, S2⟩ := z; cases e2 : tgS tg x S2.ρ <;> simp [e, e2]
@[simp] theorem ws_par {is : List Nat} : Ws (fPar is fA) S P = Wb fA S (fun rs S1 => Gb (kids rs S1) fun xs S2 => Ob (putAll is xs S2) fun S3 => P (.nx S3)) (fun e S1 => P (.exc e S1)) := by
  unfold fPar; rw [ws_bind]; refine wb_ext fun r S1 => ?_; unfold Ws
  cases e : kids r S1 with
  | none => simp [e]
  | some z => obtain ⟨x, S2⟩ := z; cases e2 : putAll is x S2 <;> simp [e, e2]
@[simp] theorem ws_for {tg : Tg} {fI : FI} : Ws (fFor tg fI f) S P = Wb fI S (fun ds S1 => Ws (forF tg f ds) S1 P) (fun e S1 => P (.exc e S1)) := by
  unfold fFor; rw [ws_bind]
@[simp] theorem ws_app : Ws (fAppend fo fe) S P = Wb fo S (fun ro S1 => Ob (ro.sv S1) fun x => match x with
    | .node .lst _ => Wb fe S1 (fun re S2 => Gb (re.kid S2) fun x S3 => Ob (pushAt ro x S3) fun S4 => P (.nx S4)) (fun e S1 => P (.exc e S1))
    | _ => False) (fun e S1 => P (.exc e S1)) := by
  unfold fAppend; rw [ws_bind]; refine wb_ext fun ro S1 => ?_
  cases ex : ro.sv S1 with
  | none => unfold Ws; simp [ex]
  | some x =>
    cases x with
    | dat d => unfold Ws; simp [ex]
    | cell c => unfold Ws; simp [ex]
    | node n xs =>
      cases n with
      | lst =>
        simp only [ob_some]
        have e : Ws (fun S1 => match ro.sv S1 with
          | some (.node .lst _) => bindS fe (fun re S2 => match re.kid S2 with
            | some (x, S3) => (pushAt ro x S3).map SO.nx
            | none => none) S1
          | _ => none) S1 P = Ws (bindS fe (fun re S2 => match re.kid S2 with
            | some (x, S3) => (pushAt ro x S3).map SO.nx
            | none => none)) S1 P := by unfold Ws; simp [ex]
        refine e.trans ?_; rw [ws_bind]; refine wb_ext fun re S2 => ?_; unfold Ws
        cases ek : re.kid S2 with
        | none => simp [ek]
        | some z => obtain ⟨x, S3⟩ := z; cases e2 : pushAt ro x S3 <;> simp [ek, e2]
      | _ => unfold Ws; simp [ex]
@[simp] theorem ws_store : Ws (fStore fo fi fe) S P = Wb fe S (fun re S1 => Wb fo S1 (fun ro S2 => Wb fi S2 (fun ri S3 => Gb (re.kid S3) fun x S4 => Ob (ri.peek S4) fun k => Ob (storeAt ro k x S4) fun S5 => P (.nx S5)) (fun e S1 => P (.exc e S1))) (fun e S1 => P (.exc e S1))) (fun e S1 => P (.exc e S1)) := by
  unfold fStore; rw [ws_bind]; refine wb_ext fun re S1 => ?_; rw [ws_bind]; refine wb_ext fun ro S2 => ?_; rw [ws_bind]; refine wb_ext fun ri S3 => ?_; unfold Ws
  cases ek : re.kid S3 with
  | none => simp [ek]
  | some z =>
    obtain ⟨x, S4⟩ := z
    cases e1 : ri.peek S4 with
    | none => simp [ek, e1]
    | some k => cases e2 : storeAt ro k x S4 <;> simp [ek, e1, e2]
@[simp] theorem ws_aug {g : G2} : Ws (fAug i g fe) ⟨ρ, μ⟩ P = Ob (ρ[i]?) fun o => Ob o fun _ => Wb fe ⟨ρ, μ⟩ (fun re S1 => Gb (g (.bor i []) re S1) fun rz S2 => Gb (rz.kid S2) fun x S3 => Ob (S3.put i x) fun S4 => P (.nx S4)) (fun e S1 => P (.exc e S1)) := by
  cases e0 : ρ[i]? with
  | none => unfold Ws fAug; simp [e0]
  | some o =>
    cases o with
    | none => unfold Ws fAug; simp [e0]
    | some x0 =>
      have e : Ws (fAug i g fe) ⟨ρ, μ⟩ P = Ws (bindS fe (fun re S1 => match g (.bor i []) re S1 with
        | some (rz, S2) => match rz.kid S2 with
          | some (x, S3) => (S3.put i x).map SO.nx
          | none => none
        | none => none)) ⟨ρ, μ⟩ P := by unfold Ws fAug; simp only [e0] <;> rfl
      rw [e, ws_bind]
      simp only [ob_some]
      refine wb_ext fun re S1 => ?_; unfold Ws
      cases e1 : g (.bor i []) re S1 with
      | none => simp [e1]
      | some z =>
        obtain ⟨rz, S2⟩ := z
        cases e2 : rz.kid S2 with
        | none => simp [e1, e2]
        | some w => obtain ⟨x, S3⟩ := w; cases e3 : S3.put i x <;> simp [e1, e2, e3]
def Sto.newCell (S : Sto) (i : Nat) (r : R) : Option Sto := match r with
  | .val (.node n xs) => ({ S with μ := S.μ ++ [.node n xs] } : Sto).put i (.cell S.μ.length)
  | _ => none
@[simp] theorem newCell_eq {n : Nd} {xs : List SV} : Sto.newCell ⟨ρ, μ⟩ i (.val (.node n xs)) = Sto.put ⟨ρ, μ ++ [.node n xs]⟩ i (.cell μ.length) := rfl
@[simp] theorem ws_setC : Ws (fSetC i fe) S P = Wb fe S (fun r S1 => Ob (S1.newCell i r) fun S2 => P (.nx S2)) (fun e S1 => P (.exc e S1)) := by
  unfold fSetC; rw [ws_bind]; refine wb_ext fun r S1 => ?_; unfold Ws Sto.newCell
  split
  · rename_i n xs
    cases e : ({ S1 with μ := S1.μ ++ [.node n xs] } : Sto).put i (.cell S1.μ.length) <;> simp [e]
  · simp
/-! a def -/
def retP (Q : SV → List SV → Prop) (X : Ex → List SV → Prop) : SO → Prop
  | .nx S => Q (.dat .non) S.μ
  | .rt x μ => Q x μ
  | .exc e S => X e S.μ
  | _ => False
section
variable {QF : SV → List SV → Prop} {XF : Ex → List SV → Prop}
@[simp] theorem retP_nx : retP QF XF (.nx S) = QF (.dat .non) S.μ := rfl
@[simp] theorem retP_rt {x : SV} : retP QF XF (.rt x μ) = QF x μ := rfl
@[simp] theorem retP_exc {e : Ex} : retP QF XF (.exc e S) = XF e S.μ := rfl
@[simp] theorem retP_bk : retP QF XF (.bk S) = False := rfl
@[simp] theorem retP_ct : retP QF XF (.ct S) = False := rfl
theorem wf_run {n m : Nat} {as : List SV} : Wf (runF n m f) as μ QF XF = (as.length = n ∧ Ws f ⟨as.map some ++ List.replicate (m - n) none, μ⟩ (retP QF XF)) := by
  unfold Wf runF Ws
  by_cases h : as.length = n
  · rw [if_pos h]
    cases e : f ⟨as.map some ++ List.replicate (m - n) none, μ⟩ with
    | none => simp
    | some o => cases o <;> simp [h, retP]
  · simp [h]
end
/-! loops -/
theorem forF_ind {tg : Tg} {ds : List D} (I : Nat → Sto → Prop) (h0 : I 0 S) (step : ∀ i d S, ds[i]? = some d → I i S → Ob (tgS tg d S.ρ) fun ρ => Ws f ⟨ρ, S.μ⟩ fun o => match o with
    | .nx S1 => I (i + 1) S1
    | .ct S1 => I (i + 1) S1
    | .bk S1 => P (.nx S1)
    | o => P o) (hend : ∀ S, I ds.length S → P (.nx S)) : Ws (forF tg f ds) S P := by
  induction ds generalizing S I with
  | nil => exact ⟨_, rfl, hend S h0⟩
  | cons d ds ih =>
    obtain ⟨ρ, e1, o, e2, q⟩ := step 0 d S rfl h0
    have e2 : f { S with ρ := ρ } = some o := e2
    have go : ∀ S1, I 1 S1 → Ws (forF tg f ds) S1 P := fun S1 h1 => ih (fun i => I (i + 1)) h1 (fun i d S hd hI => step (i + 1) d S (by simpa using hd) hI) (fun S h => hend S h)
    cases o with
    | nx S1 =>
      obtain ⟨o, eo, po⟩ := go S1 q
      exact ⟨o, by unfold forF; simp only [e1, e2]; exact eo, po⟩
    | ct S1 =>
      obtain ⟨o, eo, po⟩ := go S1 q
      exact ⟨o, by unfold forF; simp only [e1, e2]; exact eo, po⟩
    | bk S1 => exact ⟨_, by unfold forF; simp only [e1, e2], q⟩
    | rt x μ => exact ⟨_, by unfold forF; simp only [e1, e2], q⟩
    | exc e S1 => exact ⟨_, by unfold forF; simp only [e1, e2], q⟩
theorem whileF_ind {c : FT} (I : Nat → Sto → Prop) {m n : Nat} (h0 : I m S) (hn : m < n) (step : ∀ m S, I m S → Wb c S (fun b S1 => br b (Ws f S1 fun o => match o with
    | .nx S2 => ∃ m', m' < m ∧ I m' S2
    | .ct S2 => ∃ m', m' < m ∧ I m' S2
    | .bk S2 => P (.nx S2)
    | o => P o) (P (.nx S1))) (fun e S1 => P (.exc e S1))) : Ws (whileF n c f) S P := by
  induction n generalizing m S with
  | zero => omega
  | succ n ih =>
    obtain ⟨r, e1, q⟩ := step m S h0
    cases r with
    | exc e S1 => exact ⟨_, by unfold whileF; simp only [e1], q⟩
    | ok b S1 =>
      cases b with
      | false => simp only [br_f] at q; exact ⟨_, by unfold whileF; simp only [e1], q⟩
      | true =>
        simp only [br_t] at q
        obtain ⟨o, e2, q⟩ := q
        have go : ∀ S2, (∃ m', m' < m ∧ I m' S2) → Ws (whileF n c f) S2 P := fun S2 ⟨m', hm, hI⟩ => ih hI (by omega)
        cases o with
        | nx S2 =>
          obtain ⟨o, eo, po⟩ := go S2 q
          exact ⟨o, by unfold whileF; simp only [e1, e2]; exact eo, po⟩
        | ct S2 =>
          obtain ⟨o, eo, po⟩ := go S2 q
          exact ⟨o, by unfold whileF; simp only [e1, e2]; exact eo, po⟩
        | bk S2 => exact ⟨_, by unfold whileF; simp only [e1, e2], q⟩
        | rt x μ => exact ⟨_, by unfold whileF; simp only [e1, e2], q⟩
        | exc e S2 => exact ⟨_, by unfold whileF; simp only [e1, e2], q⟩
theorem compF_ind {tg : Tg} {vs : List Nat} {ds : List D} {acc : List SV} {Pc : List SV → Sto → Prop} (I : Nat → List SV → Sto → Prop) (h0 : I 0 acc S) (step : ∀ i d acc S, ds[i]? = some d → I i acc S → Ob (tgS tg d S.ρ) fun ρ => Wb ft ⟨ρ, S.μ⟩ (fun b S1 => br b
    (Wb fe S1 (fun y S2 => Gb (y.kid S2) fun x S3 => acc.length < 1000000 ∧ I (i + 1) (acc ++ [x]) (S3.wipe vs)) (fun _ _ => False)) (I (i + 1) acc (S1.wipe vs))) (fun _ _ => False)) (hend : ∀ acc S, I ds.length acc S → Pc acc S) : Gb (compF tg ft fe vs ds acc S) Pc := by
  induction ds generalizing S I acc with
  | nil => exact ⟨_, _, rfl, hend acc S h0⟩
  | cons d ds ih =>
    obtain ⟨ρ, e1, o, e2, q⟩ := step 0 d acc S rfl h0
    have e2 : ft { S with ρ := ρ } = some o := e2
    have go : ∀ acc S1, I 1 acc S1 → Gb (compF tg ft fe vs ds acc S1) Pc := fun acc S1 h1 => ih (fun i => I (i + 1)) h1 (fun i d acc S hd hI => step (i + 1) d acc S (by simpa using hd) hI) (fun acc S h => hend acc S h)
    cases o with
    | exc e S1 => exact q.elim
    | ok b S1 =>
      cases b with
      | false =>
        simp only [br_f] at q
        obtain ⟨a, S', eo, po⟩ := go acc _ q
        exact ⟨a, S', by unfold compF; simp only [e1, e2]; exact eo, po⟩
      | true =>
        simp only [br_t] at q
        obtain ⟨o, e3, q⟩ := q
        cases o with
        | exc e S1 => exact q.elim
        | ok y S2 =>
          obtain ⟨x, S3, e4, hl, q⟩ := q
          obtain ⟨a, S', eo, po⟩ := go _ _ q
          exact ⟨a, S', by unfold compF; simp only [e1, e2, e3, e4, if_pos hl]; exact eo, po⟩
end
end L3

namespace L3
open PySem PySem.Spec PyProof.Rows L2

/-! ### leaves, for simp -/
section
variable {S : Sto} {ρ : List (Option SV)} {μ : List SV} {x y : SV} {xs : List SV} {i j : Nat} {p : List Nat} {d : D} {ds es : List D} {n : Nd} {ra rb r : R} {kk : R → Sto → Prop} {k : Nat}
@[simp] theorem s_peek_val : R.peek S (.val x) = x.peek := rfl
@[simp] theorem s_peek_bor : R.peek S (.bor i p) = (S.sub i p).bind SV.peek := rfl
@[simp] theorem s_sv_val : R.sv S (.val x) = some x := rfl
@[simp] theorem s_sv_bor : R.sv S (.bor i p) = S.sub i p := rfl
@[simp] theorem s_sub0 : x.sub [] = some x := by cases x <;> rfl
@[simp] theorem s_sub1 : (SV.node n xs).sub (k :: p) = (xs[k]?).bind fun y => y.sub p := by
  show (match xs[k]? with | some y => y.sub p | none => none) = _
  cases xs[k]? <;> rfl
@[simp] theorem s_sub : Sto.sub ⟨ρ, μ⟩ i p = (ρ[i]?).bind fun o => o.bind fun x => x.sub p := by
  unfold Sto.sub
  show (match ρ[i]? with | some (some x) => x.sub p | _ => none) = _
  cases ρ[i]? with
  | none => rfl
  | some o => cases o <;> rfl
@[simp] theorem s_pk_dat : (SV.dat d).peek = some d := rfl
@[simp] theorem s_pk_lst : (SV.node .lst xs).peek = (peeks xs).map D.lst := rfl
@[simp] theorem s_pk_dK {ks : List Key} : (SV.node (.dK ks) xs).peek = (peeks xs).map (D.dK ks) := rfl
@[simp] theorem s_pk_cell : (SV.cell k).peek = none := rfl
@[simp] theorem s_pks0 : peeks [] = some [] := rfl
@[simp] theorem s_pks1 : peeks (x :: xs) = (x.peek).bind fun d => (peeks xs).map fun ds => d :: ds := rfl
@[simp] theorem s_pks_dat : peeks (ds.map SV.dat) = some ds := by
  induction ds with
  | nil => rfl
  | cons d ds ih => rw [List.map_cons, s_pks1, ih]; rfl
@[simp] theorem s_dats_dat : dats (ds.map SV.dat) = some ds := by
  induction ds with
  | nil => rfl
  | cons d ds ih =>
    rw [List.map_cons]
    show (dats (ds.map SV.dat)).map (fun ds => d :: ds) = _
    rw [ih]; rfl
@[simp] theorem s_dats0 : dats [] = some [] := rfl
@[simp] theorem s_dats1 : dats (.dat d :: xs) = (dats xs).map fun ds => d :: ds := rfl
@[simp] theorem s_its_dl : R.its S (.val (.dat (.lst ds))) = some (false, ds) := rfl
@[simp] theorem s_its_dt : R.its S (.val (.dat (.tup ds))) = some (true, ds) := rfl
@[simp] theorem s_its_n : R.its S (.val (.node .lst xs)) = (peeks xs).map fun ds => (false, ds) := rfl
/-- what a slot's own is walked as -/
def SV.its : SV → Option (Bool × List D)
  | .dat (.lst ds) => some (false, ds)
  | .dat (.tup ds) => some (true, ds)
  | .node .lst xs => (dats xs).map fun ds => (false, ds)
  | _ => none
@[simp] theorem s_its_b : R.its S (.bor i p) = (S.sub i p).bind SV.its := by
  unfold R.its
  rw [s_sv_bor]
  cases S.sub i p with
  | none => rfl
  | some x =>
    cases x with
    | dat d => cases d <;> rfl
    | cell c => rfl
    | node n xs => cases n <;> rfl
@[simp] theorem s_i_dl : (SV.dat (.lst ds)).its = some (false, ds) := rfl
@[simp] theorem s_i_dt : (SV.dat (.tup ds)).its = some (true, ds) := rfl
@[simp] theorem s_i_n : (SV.node .lst xs).its = (dats xs).map fun ds => (false, ds) := rfl
@[simp] theorem s_bl : R.bl S (.val (.dat (.bl b))) = some b := rfl
@[simp] theorem s_tru_val : R.tru S (.val (.dat d)) = match d with | .dK _ _ => none | d => truD d := by cases d <;> rfl
@[simp] theorem s_tru_bor : R.tru S (.bor i p) = (S.sub i p).bind fun x => match x with | .dat (.dK _ _) => none | x => x.peek.bind truD := by
  unfold R.tru; rw [s_sv_bor]
  cases S.sub i p with
  | none => rfl
  | some x => cases x with
    | dat d => cases d <;> rfl
    | _ => rfl
@[simp] theorem s_t_bl {b : Bool} : truD (.bl b) = some b := rfl
@[simp] theorem s_kid_val : R.kid S (.val x) = some (x, S) := rfl
/-- what is told of a slot's part, frozen -/
def frzAt (S : Sto) (i : Nat) (p : List Nat) : Option (D × Sto) := (R.bor i p).esc S
@[simp] theorem s_kid_bor : R.kid ⟨ρ, μ⟩ (.bor i p) = (Sto.sub ⟨ρ, μ⟩ i p).bind fun x => match x with
    | .cell k => some (.cell k, ⟨ρ, μ⟩)
    | .dat d => some (.dat d, ⟨ρ, μ⟩)
    | x => (x.peek).bind fun d => (ρ[i]?).bind fun o => o.map fun x0 => (.dat d, ⟨ρ.set i (some (x0.putp p (.dat d))), μ⟩) := by
  rw [s_sub]
  unfold R.kid R.esc
  dsimp only
  cases e : ρ[i]? with
  | none => simp [Sto.sub, e]
  | some o =>
    cases o with
    | none => simp [Sto.sub, e]
    | some x0 =>
      cases e2 : x0.sub p with
      | none => simp [Sto.sub, e, e2]
      | some x =>
        cases x with
        | dat d => simp [Sto.sub, e, e2]
        | cell c => simp [Sto.sub, e, e2]
        | node n xs => cases e3 : (SV.node n xs).peek <;> simp [Sto.sub, e, e2, e3]
@[simp] theorem s_esc_val : R.esc S (.val x) = x.peek.map fun d => (d, S) := rfl
@[simp] theorem s_esc_bor : R.esc ⟨ρ, μ⟩ (.bor i p) = (Sto.sub ⟨ρ, μ⟩ i p).bind fun x => match x with
    | .dat d => some (d, ⟨ρ, μ⟩)
    | x => (x.peek).bind fun d => (ρ[i]?).bind fun o => o.map fun x0 => (d, ⟨ρ.set i (some (x0.putp p (.dat d))), μ⟩) := by
  rw [s_sub]
  unfold R.esc
  dsimp only
  cases e : ρ[i]? with
  | none => simp
  | some o =>
    cases o with
    | none => simp
    | some x0 =>
      cases e2 : x0.sub p with
      | none => simp [e2]
      | some x =>
        cases x with
        | dat d => simp [e2]
        | cell c => simp [e2, SV.peek]
        | node n xs => cases e3 : (SV.node n xs).peek <;> simp [e2, e3]
@[simp] theorem s_putp0 : x.putp [] y = y := by cases x <;> rfl
@[simp] theorem s_arg_val : R.arg S (.val x) = match x with
    | .cell k => some (.cell k, S)
    | x => x.peek.map fun d => (.dat d, S) := by
  unfold R.arg
  rw [s_sv_val]
  cases x with
  | cell c => rfl
  | dat d => rfl
  | node n xs => rw [s_esc_val]; cases e : (SV.node n xs).peek <;> simp [e]
@[simp] theorem s_arg_bor : R.arg ⟨ρ, μ⟩ (.bor i p) = (Sto.sub ⟨ρ, μ⟩ i p).bind fun x => match x with
    | .cell k => some (.cell k, ⟨ρ, μ⟩)
    | .dat d => some (.dat d, ⟨ρ, μ⟩)
    | x => (x.peek).bind fun d => (ρ[i]?).bind fun o => o.map fun x0 => (.dat d, ⟨ρ.set i (some (x0.putp p (.dat d))), μ⟩) := by
  unfold R.arg
  rw [s_sv_bor]
  cases e : Sto.sub ⟨ρ, μ⟩ i p with
  | none => simp [s_esc_bor, e]
  | some x =>
    cases x with
    | cell c => rfl
    | dat d => simp [s_esc_bor, e]
    | node n xs =>
      simp only [s_esc_bor, e, Option.bind_some]
      cases e3 : (SV.node n xs).peek with
      | none => simp
      | some d =>
        cases e4 : ρ[i]? with
        | none => simp
        | some o => cases o <;> simp
@[simp] theorem s_args0 : argsOf [] S = some ([], S) := rfl
@[simp] theorem s_args1 {rs : List R} {kl : List SV → Sto → Prop} : Gb (argsOf (r :: rs) S) kl = Gb (r.arg S) fun x S1 => Gb (argsOf rs S1) fun xs S2 => kl (x :: xs) S2 := by
  show Gb (match r.arg S with
    | some (x, S1) => match argsOf rs S1 with
      | some (xs, S2) => some (x :: xs, S2)
      | none => none
    | none => none) kl = _
  cases e : r.arg S with
  | none => simp
  | some z => obtain ⟨a, S1⟩ := z; cases e2 : argsOf rs S1 <;> simp [e2]
@[simp] theorem s_kids0 : kids [] S = some ([], S) := rfl
@[simp] theorem s_kids1 {rs : List R} {kl : List SV → Sto → Prop} : Gb (kids (r :: rs) S) kl = Gb (r.kid S) fun x S1 => Gb (kids rs S1) fun xs S2 => kl (x :: xs) S2 := by
  show Gb (match r.kid S with
    | some (x, S1) => match kids rs S1 with
      | some (xs, S2) => some (x :: xs, S2)
      | none => none
    | none => none) kl = _
  cases e : r.kid S with
  | none => simp
  | some z => obtain ⟨a, S1⟩ := z; cases e2 : kids rs S1 <;> simp [e2]
@[simp] theorem s_escs0 : escs [] S = some ([], S) := rfl
@[simp] theorem s_escs1 {rs : List R} {kl : List D → Sto → Prop} : Gb (escs (r :: rs) S) kl = Gb (r.esc S) fun x S1 => Gb (escs rs S1) fun xs S2 => kl (x :: xs) S2 := by
  show Gb (match r.esc S with
    | some (x, S1) => match escs rs S1 with
      | some (xs, S2) => some (x :: xs, S2)
      | none => none
    | none => none) kl = _
  cases e : r.esc S with
  | none => simp
  | some z => obtain ⟨a, S1⟩ := z; cases e2 : escs rs S1 <;> simp [e2]
@[simp] theorem s_pkr0 : peeksR [] S = some [] := rfl
@[simp] theorem s_put : Sto.put ⟨ρ, μ⟩ i x = if i < ρ.length then some ⟨ρ.set i (some x), μ⟩ else none := rfl
@[simp] theorem s_putAll0 : putAll [] [] S = some S := rfl
@[simp] theorem s_putAll1 {is : List Nat} {k : Sto → Prop} : Ob (putAll (i :: is) (x :: xs) S) k = Ob (S.put i x) fun S1 => Ob (putAll is xs S1) k := by
  show Ob (match S.put i x with | some S1 => putAll is xs S1 | none => none) k = _
  cases S.put i x <;> simp
@[simp] theorem s_g2 {g : D → D → Option D} : Gb (g2 g ra rb S) kk = Ob (ra.peek S) fun x => Ob (rb.peek S) fun y => Ob (g x y) fun z => kk (.d z) S := by
  unfold g2
  cases ra.peek S with
  | none => simp
  | some a => cases rb.peek S with
    | none => simp
    | some b => simp
@[simp] theorem s_gD {g : List D → Option D} {rs : List R} : Gb (gD g rs S) kk = Ob (peeksR rs S) fun ds => Ob (g ds) fun d => kk (.d d) S := by unfold gD; cases peeksR rs S <;> simp
@[simp] theorem s_dI {i j : Int} {f : Int → Int → Option D} : dI f (.int i) (.int j) = f i j := rfl
variable {a b c : Int}
@[simp] theorem s_iAdd : iAdd a b = some (.int (a + b)) := rfl
@[simp] theorem s_iSub : iSub a b = some (.int (a - b)) := rfl
@[simp] theorem s_iMul : iMul a b = if (-(2 ^ 64) < a ∧ a < 2 ^ 64) ∨ (-(2 ^ 64) < b ∧ b < 2 ^ 64) then some (.int (a * b)) else none := rfl
@[simp] theorem s_iDiv : iDiv a b = if 0 < b ∧ b < 1073741824 then some (.int (a / b)) else none := rfl
@[simp] theorem s_iMod : iMod a b = if 0 < b then some (.int (a % b)) else none := rfl
@[simp] theorem s_iPow : iPow a b = if 0 ≤ b ∧ b ≤ 1000000 ∧ a.natAbs < 2 ^ 64 then some (.int (a ^ b.toNat)) else none := rfl
@[simp] theorem s_neg : negD (.int a) = some (.int (-a)) := rfl
@[simp] theorem s_lt : dLt (.int a) (.int b) = some (.bl (decide (a < b))) := rfl
@[simp] theorem s_le : dLe (.int a) (.int b) = some (.bl (decide (a ≤ b))) := rfl
@[simp] theorem s_intOf : intOf (.int a) = some a := rfl
@[simp] theorem s_key_i : (D.int a).key = some (.inl a) := rfl
@[simp] theorem s_key_s {z : Str} : (D.str z).key = some (.inr z) := rfl
@[simp] theorem s_dEq {x y : D} {k : D → Prop} : Ob (dEq x y) k = Ob (eqD x y) fun b => k (.bl b) := by unfold dEq; simp
@[simp] theorem s_dNe {x y : D} {k : D → Prop} : Ob (dNe x y) k = Ob (eqD x y) fun b => k (.bl (!b)) := by unfold dNe; simp
@[simp] theorem s_isStr {z : Str} : isStr (.str z) = true := rfl
/-- + by the two values -/
def addK (ra rb : R) (S : Sto) : SV → SV → Option (R × Sto)
  | .dat (.int a), .dat (.int b) => some (.d (.int (a + b)), S)
  | .dat (.str a), .dat (.str b) => if a.length + b.length ≤ 1000000 then some (.d (.str (a ++ b)), S) else none
  | _, _ => (gCat ra rb S).orElse fun _ => gCatT ra rb S
theorem node_peek {n : Nd} {xs : List SV} {d : D} (h : (SV.node n xs).peek = some d) : (∀ a, d ≠ .int a) ∧ ∀ a, d ≠ .str a := by
  cases n with
  | ins => exact nomatch h
  | _ =>
    cases e : peeks xs with
    | none => simp [SV.peek, e] at h
    | some ds => simp [SV.peek, e] at h; subst h; exact ⟨fun _ => by simp, fun _ => by simp⟩
theorem gAdd_eq : gAdd ra rb S = (ra.sv S).bind fun x => (rb.sv S).bind fun y => addK ra rb S x y := by
  unfold gAdd g2 R.peek
  cases ex : ra.sv S with
  | none => simp [gCat, gCatT, R.its, ex]
  | some x =>
    cases ey : rb.sv S with
    | none =>
      have e2 : rb.its S = none := by unfold R.its; rw [ey]
      cases h : x.peek <;> simp [gCat, gCatT, e2, h] <;> (cases ra.its S with
        | none => simp
        | some z => obtain ⟨t, ds⟩ := z; cases t <;> simp)
    | some y =>
      simp only [Option.bind_some]
      cases h1 : x.peek with
      | none =>
        have : ∀ a, x ≠ .dat a := fun a e => by subst e; simp at h1
        cases x with
        | dat a => exact absurd rfl (this a)
        | _ => simp [addK]
      | some dx =>
        cases h2 : y.peek with
        | none =>
          have : ∀ a, y ≠ .dat a := fun a e => by subst e; simp at h2
          cases y with
          | dat a => exact absurd rfl (this a)
          | _ => cases x with
            | dat d => cases d <;> simp [addK]
            | _ => simp [addK]
        | some dy =>
          dsimp only
          cases x with
          | cell c => simp at h1
          | node n xs =>
            obtain ⟨k1, k2⟩ := node_peek h1
            have a1 : dI iAdd dx dy = none := by cases dx <;> first | rfl | exact absurd rfl (k1 _)
            have a2 : sAdd dx dy = none := by cases dx <;> first | rfl | exact absurd rfl (k2 _)
            simp [a1, a2, addK]
          | dat d =>
            have e1 : d = dx := Option.some.inj h1
            subst e1
            cases y with
            | cell c => simp at h2
            | node n ys =>
              obtain ⟨k1, k2⟩ := node_peek h2
              have a1 : dI iAdd d dy = none := by cases d <;> cases dy <;> first | rfl | exact absurd rfl (k1 _)
              have a2 : sAdd d dy = none := by cases d <;> cases dy <;> first | rfl | exact absurd rfl (k2 _)
              cases d <;> simp [a1, a2, addK]
            | dat d' =>
              have e2 : d' = dy := Option.some.inj h2
              subst e2
              cases d <;> cases d' <;> simp [addK, dI, iAdd, sAdd]
              rename_i u v
              by_cases h : u.length + v.length ≤ 1000000
              · simp [h]
              · simp [h, gCat, gCatT, R.its, ex]
@[simp] theorem s_gAdd : Gb (gAdd ra rb S) kk = Ob (ra.sv S) fun x => Ob (rb.sv S) fun y => Gb (addK ra rb S x y) kk := by
  rw [gAdd_eq]; cases ra.sv S <;> cases rb.sv S <;> simp
@[simp] theorem s_addI : addK ra rb S (.dat (.int a)) (.dat (.int b)) = some (.d (.int (a + b)), S) := rfl
@[simp] theorem s_addS {y z : Str} : addK ra rb S (.dat (.str y)) (.dat (.str z)) = if y.length + z.length ≤ 1000000 then some (.d (.str (y ++ z)), S) else none := rfl
def addL (u v : Option (Bool × List D)) (S : Sto) : Option (R × Sto) := match u, v with
  | some (false, ds), some (false, es) => if ds.length + es.length ≤ 1000000 then some (.val (.own ((ds ++ es).map SV.dat)), S) else none
  | some (true, ds), some (true, es) => if ds.length + es.length ≤ 1000000 then some (.d (.tup (ds ++ es)), S) else none
  | _, _ => none
theorem addL_eq : ((gCat ra rb S).orElse fun _ => gCatT ra rb S) = addL (ra.its S) (rb.its S) S := by
  unfold gCat gCatT addL
  cases ra.its S with
  | none => simp
  | some u =>
    obtain ⟨t, ds⟩ := u
    cases rb.its S with
    | none => cases t <;> simp
    | some v =>
      obtain ⟨t', es⟩ := v
      cases t <;> cases t' <;> simp
@[simp] theorem s_addN {n : Nd} : addK ra rb S (.node n xs) y = addL (ra.its S) (rb.its S) S := by rw [← addL_eq]; cases y <;> rfl
@[simp] theorem s_addL : addK ra rb S (.dat (.lst ds)) y = addL (ra.its S) (rb.its S) S := by rw [← addL_eq]; cases y <;> rfl
@[simp] theorem s_addT : addK ra rb S (.dat (.tup ds)) y = addL (ra.its S) (rb.its S) S := by rw [← addL_eq]; cases y <;> rfl
@[simp] theorem s_addLL : addL (some (false, ds)) (some (false, es)) S = if ds.length + es.length ≤ 1000000 then some (.val (.own ((ds ++ es).map SV.dat)), S) else none := rfl
@[simp] theorem s_addTT : addL (some (true, ds)) (some (true, es)) S = if ds.length + es.length ≤ 1000000 then some (.d (.tup (ds ++ es)), S) else none := rfl
/-- x[i] -/
def ixK (ra : R) (S : Sto) (k : D) : SV → Option (R × Sto)
  | .dat (.lst ds) => (intOf k).bind fun i => (atI ds i).map fun d => (.d d, S)
  | .dat (.tup ds) => (intOf k).bind fun i => (atI ds i).map fun d => (.d d, S)
  | .dat (.str x) => (intOf k).bind fun i => if x.length ≤ 1000000 then (atI x.cps.toList i).map fun c => (.d (.str ⟨#[c]⟩), S) else none
  | .node .lst xs => (intOf k).bind fun i => (ixN xs.length i).bind fun j => (xs[j]?).bind fun x => (kidR ra j x).map fun r => (r, S)
  | x => match k with
    | .tup _ => none
    | _ => match x.dget S k with
      | some (some (.dat d)) => some (.d d, S)
      | some (some (.cell c)) => some (.val (.cell c), S)
      | _ => none
theorem gIx_eq : gIx ra rb S = (ra.sv S).bind fun x => (rb.peek S).bind fun k => ixK ra S k x := by
  unfold gIx gIxS gIxD
  cases ek : rb.peek S with
  | none => cases ra.sv S <;> simp
  | some k =>
    cases ex : ra.sv S with
    | none => cases k <;> simp [intOf]
    | some x =>
      simp only [Option.bind_some]
      cases x with
      | cell c => cases k <;> simp [ixK, intOf] <;> rfl
      | node n xs =>
        cases n with
        | lst => cases k <;> simp [ixK, intOf, SV.dget, nget]
        | _ => cases k <;> simp [ixK, intOf] <;> rfl
      | dat d =>
        cases d with
        | lst ds => cases k <;> simp [ixK, intOf, SV.dget]
        | tup ds => cases k <;> simp [ixK, intOf, SV.dget]
        | str z => cases k <;> simp [ixK, intOf, SV.dget]
        | _ => cases k <;> simp [ixK, intOf] <;> rfl
@[simp] theorem s_gIx : Gb (gIx ra rb S) kk = Ob (ra.sv S) fun x => Ob (rb.peek S) fun k => Gb (ixK ra S k x) kk := by rw [gIx_eq]; cases ra.sv S <;> cases rb.peek S <;> simp
@[simp] theorem s_ixL {k : D} : ixK ra S k (.dat (.lst ds)) = (intOf k).bind fun i => (atI ds i).map fun d => (.d d, S) := rfl
@[simp] theorem s_ixT {k : D} : ixK ra S k (.dat (.tup ds)) = (intOf k).bind fun i => (atI ds i).map fun d => (.d d, S) := rfl
@[simp] theorem s_ixS {k : D} {x : Str} : ixK ra S k (.dat (.str x)) = (intOf k).bind fun i => if x.length ≤ 1000000 then (atI x.cps.toList i).map fun c => (.d (.str ⟨#[c]⟩), S) else none := rfl
@[simp] theorem s_ixN {k : D} : ixK ra S k (.node .lst xs) = (intOf k).bind fun i => (ixN xs.length i).bind fun j => (xs[j]?).bind fun x => (kidR ra j x).map fun r => (r, S) := rfl
/-- what a dict tells -/
def gotK (S : Sto) : Option (Option SV) → Option (R × Sto)
  | some (some (.dat d)) => some (.d d, S)
  | some (some (.cell c)) => some (.val (.cell c), S)
  | _ => none
@[simp] theorem s_ixC {c : Nat} {z : Str} : ixK ra S (.str z) (.cell c) = gotK S (SV.dget S (.cell c) (.str z)) := rfl
@[simp] theorem s_ixK {ks : List Key} {z : Str} : ixK ra S (.str z) (.node (.dK ks) xs) = gotK S (SV.dget S (.node (.dK ks) xs) (.str z)) := rfl
@[simp] theorem s_gotD : gotK S (some (some (.dat d))) = some (.d d, S) := rfl
@[simp] theorem s_gotC {c : Nat} : gotK S (some (some (.cell c))) = some (.val (.cell c), S) := rfl
@[simp] theorem s_dgetC {c : Nat} {k : D} : SV.dget ⟨ρ, μ⟩ (.cell c) k = (μ[c]?).bind fun x => match x with
    | .node n xs => nget n xs k
    | _ => none := by
  show (match μ[c]? with | some (.node n xs) => nget n xs k | _ => none) = _
  cases μ[c]? with
  | none => rfl
  | some x => cases x <;> rfl
@[simp] theorem s_storeC {c : Nat} {k : D} (h : ra.sv ⟨ρ, μ⟩ = some (.cell c)) : storeAt ra k x ⟨ρ, μ⟩ = (μ[c]?).bind fun y => match y with
    | .node n xs => (putNd n xs k x).map fun (z : Nd × List SV) => (⟨ρ, μ.set c (.node z.1 z.2)⟩ : Sto)
    | _ => none := by
  unfold storeAt
  rw [h]
  show (match μ[c]? with | some (.node n xs) => (putNd n xs k x).map fun (z : Nd × List SV) => Sto.cellp ⟨ρ, μ⟩ c (.node z.1 z.2) | _ => none) = _
  cases μ[c]? with
  | none => rfl
  | some x => cases x <;> rfl
end
section
variable {α β : Type} {S : Sto} {ds : List D} {z : Str} {i j : Int} {xs : List α} {ka : α → Prop}
@[simp] theorem s_pkr1 {r : R} {rs : List R} {k : List D → Prop} : Ob (peeksR (r :: rs) S) k = Ob (r.peek S) fun d => Ob (peeksR rs S) fun ds => k (d :: ds) := by
  show Ob ((r.peek S).bind fun d => (peeksR rs S).map fun ds => d :: ds) k = _
  cases r.peek S <;> cases peeksR rs S <;> simp
@[simp] theorem s_lenL : lenD [.lst ds] = some (.int ds.length) := rfl
@[simp] theorem s_lenT : lenD [.tup ds] = some (.int ds.length) := rfl
@[simp] theorem s_lenS : lenD [.str z] = if z.length ≤ 1000000 then some (.int z.length) else none := rfl
@[simp] theorem s_max2 : max2D [.int i, .int j] = some (.int (if j > i then j else i)) := rfl
@[simp] theorem s_min2 : min2D [.int i, .int j] = some (.int (if j < i then j else i)) := rfl
@[simp] theorem s_atI_map {f : α → β} : atI (xs.map f) i = (atI xs i).map f := by
  unfold atI; rw [List.length_map]
  cases ixN xs.length i with
  | none => rfl
  | some j => simp
theorem ixN_in {n : Nat} (h0 : 0 ≤ i) (h1 : i < n) : ixN n i = some i.toNat := by unfold ixN; rw [if_pos h0, if_pos h1]
theorem ob_at (h0 : 0 ≤ i) (h1 : i < xs.length) (h : ∀ x, x ∈ xs → ka x) : Ob (atI xs i) ka := by
  unfold atI
  rw [ixN_in h0 h1, Option.bind_some]
  have : i.toNat < xs.length := by omega
  rw [List.getElem?_eq_getElem this, ob_some]
  exact h _ (List.getElem_mem _)
theorem atI_in (h0 : 0 ≤ i) (h1 : i < xs.length) : atI xs i = xs[i.toNat]? := by
  unfold atI; rw [ixN_in h0 h1]; rfl
end
/-! ### the draw -/
section
variable {x1 x2 x3 x4 y : SV}
abbrev drawKs : List Key := [.inr "cells", .inr "at", .inr "left", .inr "used"]
@[simp] theorem dr_cells : nget (.dK drawKs) [x1, x2, x3, x4] (.str "cells") = some (some x1) := rfl
@[simp] theorem dr_at : nget (.dK drawKs) [x1, x2, x3, x4] (.str "at") = some (some x2) := rfl
@[simp] theorem dr_left : nget (.dK drawKs) [x1, x2, x3, x4] (.str "left") = some (some x3) := rfl
@[simp] theorem dr_used : nget (.dK drawKs) [x1, x2, x3, x4] (.str "used") = some (some x4) := rfl
@[simp] theorem pu_at : putNd (.dK drawKs) [x1, x2, x3, x4] (.str "at") y = some (.dK drawKs, [x1, y, x3, x4]) := rfl
@[simp] theorem pu_left : putNd (.dK drawKs) [x1, x2, x3, x4] (.str "left") y = some (.dK drawKs, [x1, x2, y, x4]) := rfl
@[simp] theorem pu_used : putNd (.dK drawKs) [x1, x2, x3, x4] (.str "used") y = some (.dK drawKs, [x1, x2, x3, y]) := rfl
end
end L3

namespace L3
open PySem PySem.Spec PyProof.Rows L2

/-! ### small data: shown, compared -/
mutual
def pyOf : D → PyData
  | .non => .none
  | .bl b => .bool b
  | .int i => .int i
  | .str x => .str x
  | .lst xs => .list (pysOf xs)
  | .tup xs => .tuple (pysOf xs)
  | .dK _ _ => .none
  | .dT _ _ => .none
  | .fn _ => .none
def pysOf : List D → List PyData
  | [] => []
  | d :: ds => pyOf d :: pysOf ds
end
mutual
/-- no dicts in it, its numbers and texts small -/
def D.sm : D → Prop
  | .non => True
  | .bl _ => True
  | .int i => i.natAbs < 10 ^ 12
  | .str x => PyData.canLay0 (.str x) = true
  | .lst xs => smL xs
  | .tup xs => smL xs
  | .dK _ _ => False
  | .dT _ _ => False
  | .fn _ => False
def smL : List D → Prop
  | [] => True
  | d :: ds => d.sm ∧ smL ds
end
mutual
def D.wt : D → Nat
  | .int _ => 41
  | .str x => x.length
  | .lst xs => wtL xs
  | .tup xs => wtL xs
  | .non => 0
  | .bl _ => 0
  | .dK _ _ => 0
  | .dT _ _ => 0
  | .fn _ => 0
def wtL : List D → Nat
  | [] => 0
  | d :: ds => d.wt + 1 + wtL ds
end
mutual
def D.dp : D → Nat
  | .lst xs => dpL xs + 1
  | .tup xs => dpL xs + 1
  | .int _ => 0
  | .str x => 0
  | .non => 0
  | .bl _ => 0
  | .dK _ _ => 0
  | .dT _ _ => 0
  | .fn _ => 0
def dpL : List D → Nat
  | [] => 0
  | d :: ds => max d.dp (dpL ds)
end
structure SmP (d : D) (p : PyData) : Prop where
  py : d.py = some p
  lay : p.canLay0 = true
  sh : p.showable = true
  nd : p.hasDict = false
  shrt : p.intsShort 13 = true
  wt : p.weight ≤ d.wt
  dp : p.depth = d.dp
structure SmPs (ds : List D) (ps : List PyData) : Prop where
  py : pys ds = some ps
  lay : PyData.canLayAll0 ps = true
  sh : PyData.showableAll ps = true
  nd : PyData.hasDictAll ps = false
  shrt : PyData.intsShortAll 13 ps = true
  wt : PyData.weightAll ps ≤ wtL ds
  dp : PyData.depthAll ps = dpL ds
theorem log2_lt {n : Nat} (h : n < 10 ^ 12) : n.log2 < 40 := by
  by_cases h0 : n = 0
  · subst h0; decide
  · exact (Nat.log2_lt h0).mpr (Nat.lt_of_lt_of_le h (by decide))
mutual
theorem sm_py : ∀ {d : D}, d.sm → SmP d (pyOf d)
  | .non, _ => ⟨by simp [D.py, pyOf], by simp [pyOf, PyData.canLay0], by simp [pyOf, PyData.showable], by simp [pyOf, PyData.hasDict], by simp [pyOf, PyData.intsShort], by simp [pyOf, PyData.weight], by simp [pyOf, PyData.depth, D.dp]⟩
  | .bl b, _ => ⟨by simp [D.py, pyOf], by simp [pyOf, PyData.canLay0], by simp [pyOf, PyData.showable], by simp [pyOf, PyData.hasDict], by simp [pyOf, PyData.intsShort], by simp [pyOf, PyData.weight], by simp [pyOf, PyData.depth, D.dp]⟩
  | .int i, h => by
    have h : i.natAbs < 10 ^ 12 := h
    have hl := log2_lt h
    refine ⟨by simp [D.py, pyOf], by simp [pyOf, PyData.canLay0], ?_, by simp [pyOf, PyData.hasDict], ?_, ?_, by simp [pyOf, PyData.depth, D.dp]⟩
    · simp only [pyOf, PyData.showable, decide_eq_true_eq]; omega
    · simp only [pyOf, PyData.intsShort, decide_eq_true_eq]; exact PyData.shown_int_le h
    · simp only [pyOf, PyData.weight, D.wt]; split <;> omega
  | .str x, h => by
    have h : PyData.canLay0 (.str x) = true := h
    refine ⟨by simp [D.py, pyOf], h, by simp [pyOf, PyData.showable], by simp [pyOf, PyData.hasDict], by simp [pyOf, PyData.intsShort], ?_, by simp [pyOf, PyData.depth, D.dp]⟩
    simp only [pyOf, PyData.weight, D.wt]; exact Nat.le_refl _
  | .lst xs, h => by
    have q := smL_pys (show smL xs from h)
    refine ⟨?_, ?_, ?_, ?_, ?_, ?_, ?_⟩
    · unfold D.py; rw [q.py]; simp [pyOf]
    · simp only [pyOf, PyData.canLay0]; exact q.lay
    · simp only [pyOf, PyData.showable]; exact q.sh
    · simp only [pyOf, PyData.hasDict]; exact q.nd
    · simp only [pyOf, PyData.intsShort]; exact q.shrt
    · simp only [pyOf, PyData.weight, D.wt]; exact q.wt
    · simp only [pyOf, PyData.depth, D.dp, q.dp]
  | .tup xs, h => by
    have q := smL_pys (show smL xs from h)
    refine ⟨?_, ?_, ?_, ?_, ?_, ?_, ?_⟩
    · unfold D.py; rw [q.py]; simp [pyOf]
    · simp only [pyOf, PyData.canLay0]; exact q.lay
    · simp only [pyOf, PyData.showable]; exact q.sh
    · simp only [pyOf, PyData.hasDict]; exact q.nd
    · simp only [pyOf, PyData.intsShort]; exact q.shrt
    · simp only [pyOf, PyData.weight, D.wt]; exact q.wt
    · simp only [pyOf, PyData.depth, D.dp, q.dp]
  | .dK _ _, h => absurd h (by simp [D.sm])
  | .dT _ _, h => absurd h (by simp [D.sm])
  | .fn _, h => absurd h (by simp [D.sm])
theorem smL_pys : ∀ {ds : List D}, smL ds → SmPs ds (pysOf ds)
  | [], _ => ⟨by simp [pys, pysOf], by simp [pysOf, PyData.canLayAll0], by simp [pysOf, PyData.showableAll], by simp [pysOf, PyData.hasDictAll], by simp [pysOf, PyData.intsShortAll], by simp [pysOf, PyData.weightAll], by simp [pysOf, PyData.depthAll, dpL]⟩
  | d :: ds, h => by
    have h : d.sm ∧ smL ds := h
    have q := sm_py h.1
    have r := smL_pys h.2
    refine ⟨?_, ?_, ?_, ?_, ?_, ?_, ?_⟩
    · unfold pys; rw [q.py, r.py]; simp [pysOf]
    · simp only [pysOf, PyData.canLayAll0, q.lay, r.lay, Bool.and_self]
    · simp only [pysOf, PyData.showableAll, q.sh, r.sh, Bool.and_self]
    · simp only [pysOf, PyData.hasDictAll, q.nd, r.nd, Bool.or_self]
    · simp only [pysOf, PyData.intsShortAll, q.shrt, r.shrt, Bool.and_self]
    · simp only [pysOf, PyData.weightAll, wtL]; have := q.wt; have := r.wt; omega
    · simp only [pysOf, PyData.depthAll, dpL, q.dp, r.dp]
end
theorem smL_iff {ds : List D} : smL ds ↔ ∀ d ∈ ds, d.sm := by
  induction ds with
  | nil => simp [smL]
  | cons d ds ih => simp [smL, ih]
theorem wtL_le {n : Nat} {ds : List D} (h : ∀ d ∈ ds, d.wt ≤ n) : wtL ds ≤ ds.length * (n + 1) := by
  induction ds with
  | nil => simp [wtL]
  | cons d ds ih =>
    have h1 := h d (by simp)
    have h2 := ih fun x hx => h x (by simp [hx])
    simp only [wtL, List.length_cons, Nat.add_mul]
    omega
theorem dpL_le {n : Nat} {ds : List D} (h : ∀ d ∈ ds, d.dp ≤ n) : dpL ds ≤ n := by
  induction ds with
  | nil => simp [dpL]
  | cons d ds ih =>
    have h1 := h d (by simp)
    have h2 := ih fun x hx => h x (by simp [hx])
    simp only [dpL]; omega
theorem SmP.small {d : D} {p : PyData} (q : SmP d p) (hw : d.wt ≤ 2 ^ 20) (hd : d.dp ≤ 64) : p.shown.length ≤ 16000000 := by
  have hd2 : p.depth ≤ 64 := by rw [q.dp]; exact hd
  have h2 := PyData.shown_le 13 (by decide) p (PyData.leavesShort_of_canLay0 13 p q.lay q.shrt)
  have h1 := q.wt
  omega
theorem repr_sm {d : D} (h : d.sm) (hw : d.wt ≤ 2 ^ 20) (hd : d.dp ≤ 64) : reprD [d] = some (.str (pyOf d).shown) := by
  have q := sm_py h
  have hd2 : (pyOf d).depth ≤ 64 := by rw [q.dp]; exact hd
  show (match d.py with
    | some p => if p.showable = true ∧ p.hasDict = false ∧ p.depth ≤ 64 ∧ p.shown.length ≤ 16000000 then some (D.str p.shown) else none
    | none => none) = _
  rw [q.py]
  dsimp only
  rw [if_pos ⟨q.sh, q.nd, hd2, q.small hw hd⟩]
theorem SmP.shaped {d : D} {p : PyData} (q : SmP d p) (hd : d.dp ≤ 64) : SeqAt.shaped p = true := by
  have hd2 : p.depth ≤ 64 := by rw [q.dp]; exact hd
  unfold SeqAt.shaped; simp [q.lay, hd2]
theorem eqP_sm {a b : D} (ha : a.sm) (hb : b.sm) (h1 : a.dp ≤ 64) (h2 : b.dp ≤ 64) : eqP a b = some (PyData.eqv (pyOf a) (pyOf b)) := by
  have p := sm_py ha
  have q := sm_py hb
  unfold eqP
  rw [p.py, q.py]
  dsimp only
  rw [if_pos ⟨p.shaped h1, q.shaped h2⟩]
/-- what == tells of two -/
def eqT (a b : D) : Bool := match a, b with
  | .str x, .str y => decide (x = y)
  | .int i, .int j => decide (i = j)
  | a, b => PyData.eqv (pyOf a) (pyOf b)
theorem eqD_sm {a b : D} (ha : a.sm) (hb : b.sm) (h1 : a.dp ≤ 64) (h2 : b.dp ≤ 64) : eqD a b = some (eqT a b) := by
  unfold eqD eqT
  split
  · rfl
  · rfl
  · rename_i n1 n2
    rw [eqP_sm ha hb h1 h2]
    all_goals (cases a <;> cases b <;> first | rfl | exact absurd rfl (n1 _ _ rfl) | exact absurd rfl (n2 _ _ rfl))
theorem eqT_self {a : D} (ha : a.sm) : eqT a a = true := by
  have h := SeqAt.eqv_refl (pyOf a) (sm_py ha).lay
  cases a <;> first | exact h | simp [eqT]
@[simp] theorem eqD_str {x y : Str} : eqD (.str x) (.str y) = some (decide (x = y)) := rfl
@[simp] theorem eqD_int {x y : Int} : eqD (.int x) (.int y) = some (decide (x = y)) := rfl
end L3

namespace L3
open PySem PySem.Spec PyProof.Rows L2

/-! ### targets, slices, ranges, comprehensions: for simp -/
section
variable {ρ : List (Option SV)} {μ : List SV} {i : Nat} {d : D} {ds : List D} {t : Tg} {ts : List Tg} {vs : List Nat} {v : Nat} {S : Sto} {ra : R} {kk : R → Sto → Prop}
@[simp] theorem tg_nm : tgS (.nm i) d ρ = if i < ρ.length then some (ρ.set i (some (.dat d))) else none := by simp [tgS]
@[simp] theorem tg_tp : tgS (.tp ts) (.tup ds) ρ = tgsS ts ds ρ := by simp [tgS]
@[simp] theorem tgs_nil : tgsS [] [] ρ = some ρ := by simp [tgsS]
@[simp] theorem tgs_cons {k : List (Option SV) → Prop} : Ob (tgsS (t :: ts) (d :: ds) ρ) k = Ob (tgS t d ρ) fun ρ1 => Ob (tgsS ts ds ρ1) k := by
  conv => lhs; rw [tgsS]
  cases tgS t d ρ <;> simp
@[simp] theorem wipe_eq : Sto.wipe ⟨ρ, μ⟩ vs = ⟨wipeL ρ vs, μ⟩ := rfl
@[simp] theorem wipe_nil : wipeL ρ [] = ρ := rfl
@[simp] theorem wipe_cons : wipeL ρ (v :: vs) = (wipeL ρ vs).set v none := rfl
@[simp] theorem s_range1 {j : Int} : range1 [.int j] = if small62 j then some (rangeL 0 j.toNat 1) else none := rfl
@[simp] theorem s_range2 {i j : Int} : range2 [.int i, .int j] = if small62 i ∧ small62 j then some (rangeL i (j - i).toNat 1) else none := rfl
@[simp] theorem s_range3 {i j : Int} : range3 [.int i, .int j, .int (-1)] = if small62 i ∧ small62 j then some (rangeL i (i - j).toNat (-1)) else none := by
  show (if small62 i ∧ small62 j ∧ ((-1 : Int) = -1 ∨ (-1 : Int) = 1 ∨ (-1 : Int) = 2) then some (rangeL i (steps3 i j (-1)) (-1)) else none) = _
  simp [steps3]
theorem small62_of {i : Int} (h1 : -(2 ^ 62) ≤ i) (h2 : i < 2 ^ 62) : small62 i := ⟨h1, h2⟩
theorem cut_tail {α : Type} (x : α) (r : List α) : cutD (x :: r) (some 1) none = r := by
  unfold cutD
  rw [show HT.sIx (x :: r).length 0 (some 1) = min 1 (x :: r).length from HT.sIx_nat _ 0 1, HT.sIx_none, List.length_cons]
  have : min 1 (r.length + 1) = 1 := by omega
  rw [this]; simp
theorem cut_nat {α : Type} (xs : List α) (a b : Nat) (ha : a ≤ xs.length) (hb : b ≤ xs.length) : cutD xs (some (a : Int)) (some (b : Int)) = (xs.drop a).take (b - a) := by
  unfold cutD
  rw [show HT.sIx xs.length 0 (some (a : Int)) = min a xs.length from HT.sIx_nat _ 0 a, show HT.sIx xs.length xs.length (some (b : Int)) = min b xs.length from HT.sIx_nat _ xs.length b]
  rw [Nat.min_eq_left ha, Nat.min_eq_left hb]
/-- the part of a list, a tuple, a text -/
def slK (ra : R) (S : Sto) (lo hi : Option Int) : SV → Option (R × Sto)
  | .dat (.str x) => if x.length ≤ 1000000 then some (.d (.str (L2.cutS x lo hi)), S) else none
  | _ => match ra.its S with
    | some (false, ds) => some (.val (.own ((cutD ds lo hi).map SV.dat)), S)
    | some (true, ds) => some (.d (.tup (cutD ds lo hi)), S)
    | none => none
theorem gSl_eq {lo hi : Option Int} : gSl ra lo hi S = (ra.sv S).bind fun x => slK ra S lo hi x := by
  unfold gSl
  cases ex : ra.sv S with
  | none => simp [R.its, ex]
  | some x =>
    simp only [Option.bind_some]
    cases x with
    | cell c => simp [R.its, ex, slK]
    | node n xs => cases n <;> simp [ex, slK] <;> (split <;> simp_all)
    | dat d => cases d <;> simp [R.its, ex, slK]
@[simp] theorem s_gSl {lo hi : Option Int} : Gb (gSl ra lo hi S) kk = Ob (ra.sv S) fun x => Gb (slK ra S lo hi x) kk := by rw [gSl_eq]; simp
@[simp] theorem s_slT {lo hi : Option Int} : slK ra S lo hi (.dat (.tup ds)) = match ra.its S with
    | some (false, ds) => some (.val (.own ((cutD ds lo hi).map SV.dat)), S)
    | some (true, ds) => some (.d (.tup (cutD ds lo hi)), S)
    | none => none := rfl
@[simp] theorem s_slL {lo hi : Option Int} : slK ra S lo hi (.dat (.lst ds)) = match ra.its S with
    | some (false, ds) => some (.val (.own ((cutD ds lo hi).map SV.dat)), S)
    | some (true, ds) => some (.d (.tup (cutD ds lo hi)), S)
    | none => none := rfl
end
section
variable {tg : Tg} {ft : FT} {fe : FE} {vs : List Nat} {ds : List D} {S : Sto} {Q : R → Sto → Prop}
/-- a comprehension that keeps the state: each element g of the datum, of those that p lets by -/
theorem ct_filter (p : D → Bool) (g : D → SV) (hl : ds.length ≤ 1000000) (h : ∀ d ∈ ds, Ob (tgS tg d (S.wipe vs).ρ) fun ρ => Wb ft ⟨ρ, S.μ⟩ (fun b S1 => b = p d ∧ br b (Wb fe S1 (fun y S2 => Gb (y.kid S2) fun x S3 => x = g d ∧ S3.wipe vs = S.wipe vs) fun _ _ => False) (S1.wipe vs = S.wipe vs)) fun _ _ => False)
    (hq : Q (.val (.own ((ds.filter p).map g))) (S.wipe vs)) : fCompTail tg ft fe vs ds S Q := by
  unfold fCompTail
  refine compF_ind (fun i acc S1 => acc = ((ds.take i).filter p).map g ∧ S1 = S.wipe vs) ⟨by simp, rfl⟩ (fun i d acc S1 hd hI => ?_) (fun acc S1 hI => ?_)
  · obtain ⟨rfl, rfl⟩ := hI
    have hi := (List.getElem?_eq_some_iff.mp hd).1
    have hm : d ∈ ds := List.mem_of_getElem? hd
    have et : ds.take (i + 1) = ds.take i ++ [d] := by rw [List.take_add_one, hd]; rfl
    obtain ⟨ρ, e1, r, e2, q⟩ := h d hm
    refine ⟨ρ, e1, r, e2, ?_⟩
    cases r with
    | exc e S1 => exact q
    | ok b S1 =>
      obtain ⟨eb, q⟩ := q
      cases b with
      | true =>
        simp only [br_t] at q ⊢
        refine wb_mono q (fun y S2 hy => ?_) fun _ _ h => h
        obtain ⟨x, S3, e3, rfl, e4⟩ := hy
        refine ⟨_, S3, e3, ?_, ?_, e4⟩
        · rw [List.length_map]
          have h1 := List.length_filter_le p (ds.take i)
          rw [List.length_take] at h1
          omega
        · rw [et, List.filter_append, List.map_append]; simp [← eb]
      | false =>
        simp only [br_f] at q ⊢
        exact ⟨by rw [et, List.filter_append, List.map_append]; simp [← eb], q⟩
  · obtain ⟨rfl, rfl⟩ := hI
    rw [List.take_of_length_le (Nat.le_refl _)]; exact hq
theorem ct_map (g : D → SV) (hl : ds.length ≤ 1000000) (h : ∀ d ∈ ds, Ob (tgS tg d (S.wipe vs).ρ) fun ρ => Wb fe ⟨ρ, S.μ⟩ (fun y S2 => Gb (y.kid S2) fun x S3 => x = g d ∧ S3.wipe vs = S.wipe vs) fun _ _ => False)
    (hq : Q (.val (.own (ds.map g))) (S.wipe vs)) : fCompTail tg fYes fe vs ds S Q := by
  refine ct_filter (fun _ => true) g hl (fun d hd => ?_) (by rw [show ds.filter (fun _ => true) = ds from List.filter_eq_self.mpr (fun _ _ => rfl)]; exact hq)
  obtain ⟨ρ, e, q⟩ := h d hd
  exact ⟨ρ, e, by simpa using q⟩
end
section
variable {α : Type} {x y z u : α} {r : List α}
@[simp] theorem at0 : atI (x :: r) 0 = some x := by rw [atI_in (by omega) (by simp only [List.length_cons]; omega)]; rfl
@[simp] theorem at1 : atI (x :: y :: r) 1 = some y := by rw [atI_in (by omega) (by simp only [List.length_cons]; omega)]; rfl
@[simp] theorem at2 : atI (x :: y :: z :: r) 2 = some z := by rw [atI_in (by omega) (by simp only [List.length_cons]; omega)]; rfl
@[simp] theorem at3 : atI (x :: y :: z :: u :: r) 3 = some u := by rw [atI_in (by omega) (by simp only [List.length_cons]; omega)]; rfl
end
/-- += of numbers, of texts -/
def add2D : D → D → Option D
  | .int a, .int b => some (.int (a + b))
  | .str x, .str y => if x.length + y.length ≤ 1000000 then some (.str (x ++ y)) else none
  | _, _ => none
@[simp] theorem s_gAdd2 {ra rb : R} {S : Sto} {kk : R → Sto → Prop} : Gb (gAdd2 ra rb S) kk = Ob (ra.peek S) fun x => Ob (rb.peek S) fun y => Ob (add2D x y) fun z => kk (.d z) S := by
  unfold gAdd2 g2
  cases ra.peek S with
  | none => simp
  | some x =>
    cases rb.peek S with
    | none => simp
    | some y =>
      cases x <;> cases y <;> simp [add2D, dI, iAdd, sAdd]
@[simp] theorem s_add2I {a b : Int} : add2D (.int a) (.int b) = some (.int (a + b)) := rfl
@[simp] theorem s_add2S {x y : Str} : add2D (.str x) (.str y) = if x.length + y.length ≤ 1000000 then some (.str (x ++ y)) else none := rfl
@[simp] theorem peeks_mapf {α : Type} {f : α → D} {l : List α} : peeks (l.map fun t => SV.dat (f t)) = some (l.map f) := by
  have := s_pks_dat (ds := l.map f); rwa [List.map_map] at this
@[simp] theorem dats_mapf {α : Type} {f : α → D} {l : List α} : dats (l.map fun t => SV.dat (f t)) = some (l.map f) := by
  have := s_dats_dat (ds := l.map f); rwa [List.map_map] at this
@[simp] theorem peeks_comp {α : Type} {f : α → D} {l : List α} : peeks (l.map (SV.dat ∘ f)) = some (l.map f) := peeks_mapf
@[simp] theorem dats_comp {α : Type} {f : α → D} {l : List α} : dats (l.map (SV.dat ∘ f)) = some (l.map f) := dats_mapf
@[simp] theorem peeks_app : ∀ {a b : List SV}, peeks (a ++ b) = (peeks a).bind fun x => (peeks b).map fun y => x ++ y
  | [], b => by cases e : peeks b <;> simp [e]
  | x :: a, b => by
    rw [List.cons_append, s_pks1, s_pks1, peeks_app]
    cases x.peek <;> cases peeks a <;> cases peeks b <;> simp
@[simp] theorem dats_app : ∀ {a b : List SV}, dats (a ++ b) = (dats a).bind fun x => (dats b).map fun y => x ++ y
  | [], b => by cases e : dats b <;> simp [e]
  | .dat d :: a, b => by
    rw [List.cons_append, s_dats1, s_dats1, dats_app]
    cases dats a <;> cases dats b <;> simp
  | .node _ _ :: a, b => rfl
  | .cell _ :: a, b => rfl
@[simp] theorem strsD_map : ∀ {ys : List Str}, strsD (ys.map D.str) = some ys
  | [] => rfl
  | y :: ys => by
    show (strsD (ys.map D.str)).map (fun xs => y :: xs) = _
    rw [strsD_map]; rfl
@[simp] theorem joinL {x : Str} {ds : List D} : dJoin (.str x) (.lst ds) = (strsD ds).bind fun ys => if (ys.map (·.length)).sum + ys.length * x.length ≤ 16777216 then some (.str (Txt.join x ys)) else none := rfl
@[simp] theorem splitS {x y : Str} {S : Sto} : gSplit (.val (.dat (.str x))) (.val (.dat (.str y))) S = if (y.length == 0) = false ∧ x.length ≤ 1000000 then some (.val (.own ((Txt.split x y).map fun z => .dat (.str z))), S) else none := rfl
@[simp] theorem sum_ints {xs : List Int} : sumD [.lst (xs.map D.int)] = some (.int xs.sum) := by
  have : intsD (xs.map D.int) = some xs := by
    induction xs with
    | nil => rfl
    | cons x xs ih => show (intsD (xs.map D.int)).map (fun is => x :: is) = _; rw [ih]; rfl
  show (intsD (xs.map D.int)).map _ = _
  rw [this]; rfl
@[simp] theorem sum_mapf {α : Type} {f : α → Int} {l : List α} : sumD [.lst (l.map fun t => .int (f t))] = some (.int (l.map f).sum) := by
  have := sum_ints (xs := l.map f); rwa [List.map_map] at this
section
variable {ρ : List (Option SV)} {μ : List SV} {i j n : Nat} {d k : D} {x : SV} {xs : List SV} {ra : R} {c : Nat}
@[simp] theorem kidR_dat : kidR ra j (.dat d) = some (.d d) := rfl
@[simp] theorem kidR_cell : kidR ra j (.cell c) = some (.val (.cell c)) := rfl
@[simp] theorem kidR_bor {p : List Nat} {n : Nd} : kidR (.bor i p) j (.node n xs) = some (.bor i (p ++ [j])) := rfl
@[simp] theorem ixN0 : ixN (n + 1) 0 = some 0 := by rw [ixN_in (by omega) (by omega)]; rfl
@[simp] theorem ixN1 : ixN (n + 2) 1 = some 1 := by rw [ixN_in (by omega) (by omega)]; rfl
@[simp] theorem ixN2 : ixN (n + 3) 2 = some 2 := by rw [ixN_in (by omega) (by omega)]; rfl
@[simp] theorem pushAt0 : pushAt (.bor i []) x ⟨ρ, μ⟩ = (ρ[i]?).bind fun o => o.bind fun y => match y with
    | .node .lst xs => if xs.length < 1000000 then some (⟨ρ.set i (some (.own (xs ++ [x]))), μ⟩ : Sto) else none
    | _ => none := by
  unfold pushAt
  dsimp only
  rw [s_sub]
  cases e : ρ[i]? with
  | none => rfl
  | some o =>
    cases o with
    | none => rfl
    | some y =>
      simp only [Option.bind_some, s_sub0]
      cases y with
      | node n xs => cases n <;> simp [Sto.putp, e]
      | _ => rfl
@[simp] theorem storeAt0 : storeAt (.bor i []) k x ⟨ρ, μ⟩ = (ρ[i]?).bind fun o => o.bind fun y => match y with
    | .cell c => (μ[c]?).bind fun y => match y with
      | .node n xs => (putNd n xs k x).map fun (z : Nd × List SV) => (⟨ρ, μ.set c (.node z.1 z.2)⟩ : Sto)
      | _ => none
    | .node n xs => (putNd n xs k x).map fun (z : Nd × List SV) => (⟨ρ.set i (some (.node z.1 z.2)), μ⟩ : Sto)
    | _ => none := by
  unfold storeAt
  rw [s_sv_bor, s_sub]
  cases e : ρ[i]? with
  | none => rfl
  | some o =>
    cases o with
    | none => rfl
    | some y =>
      simp only [Option.bind_some, s_sub0]
      cases y with
      | node n xs =>
        dsimp only
        cases putNd n xs k x <;> simp [Sto.putp, e]
      | cell c =>
        dsimp only
        cases e2 : μ[c]? with
        | none => rfl
        | some y => cases y <;> rfl
      | dat d => rfl
@[simp] theorem putNd_lst {a : Int} : putNd .lst xs (.int a) x = (ixN xs.length a).map fun j => (.lst, xs.set j x) := rfl
end
@[simp] theorem s_tupOf {r : R} {S : Sto} {kk : R → Sto → Prop} : Gb (gTupOf [r] S) kk = Gb (r.its S) fun _ ds => kk (.d (.tup ds)) S := by
  show Gb (match r.its S with | some (_, ds) => some (.d (.tup ds), S) | none => none) kk = _
  cases e : r.its S with
  | none => simp
  | some z => obtain ⟨t, ds⟩ := z; simp
@[simp] theorem s_lstOf {r : R} {S : Sto} {kk : R → Sto → Prop} : Gb (gLstOf [r] S) kk = Gb (r.its S) fun _ ds => kk (.val (.own (ds.map SV.dat))) S := by
  show Gb (match r.its S with | some (_, ds) => some (.val (.own (ds.map SV.dat)), S) | none => none) kk = _
  cases e : r.its S with
  | none => simp
  | some z => obtain ⟨t, ds⟩ := z; simp
/-- a comprehension that changes the cells -/
theorem ct_ind {tg : Tg} {fe : FE} {vs : List Nat} {ds : List D} {ρ : List (Option SV)} {μ : List SV} {Q : R → Sto → Prop} (I : Nat → List SV → List SV → Prop) (hl : ds.length ≤ 1000000) (h0 : I 0 [] μ)
    (step : ∀ i d acc μ, ds[i]? = some d → I i acc μ → Ob (tgS tg d (wipeL ρ vs)) fun ρ1 => Wb fe ⟨ρ1, μ⟩ (fun y S2 => Gb (y.kid S2) fun x S3 => I (i + 1) (acc ++ [x]) S3.μ ∧ wipeL S3.ρ vs = wipeL ρ vs) fun _ _ => False)
    (hend : ∀ acc μ', I ds.length acc μ' → Q (.val (.own acc)) ⟨wipeL ρ vs, μ'⟩) : fCompTail tg fYes fe vs ds ⟨ρ, μ⟩ Q := by
  unfold fCompTail
  refine compF_ind (fun i acc S => I i acc S.μ ∧ S.ρ = wipeL ρ vs ∧ acc.length ≤ i) ⟨h0, rfl, by simp⟩ (fun i d acc S hd hI => ?_) (fun acc S hI => ?_)
  · obtain ⟨ρ0, μ0⟩ := S
    obtain ⟨h1, e, h3⟩ := hI
    have e : ρ0 = wipeL ρ vs := e
    subst e
    obtain ⟨ρ1, e1, q⟩ := step i d acc μ0 hd h1
    have hi := (List.getElem?_eq_some_iff.mp hd).1
    refine ⟨ρ1, e1, ?_⟩
    simp only [wb_yes, br_t]
    refine wb_mono q (fun y S2 hy => ?_) fun _ _ h => h
    obtain ⟨x, S3, e3, h4, h5⟩ := hy
    exact ⟨x, S3, e3, by omega, h4, h5, by rw [List.length_append]; simp; omega⟩
  · obtain ⟨ρ0, μ0⟩ := S
    obtain ⟨h1, e, _⟩ := hI
    have e : ρ0 = wipeL ρ vs := e
    subst e
    exact hend acc μ0 h1
theorem ob_ixN {n : Nat} {i : Int} {k : Nat → Prop} (h0 : 0 ≤ i) (h1 : i < n) (h : ∀ j, j < n → k j) : Ob (ixN n i) k := by
  rw [ixN_in h0 h1, ob_some]; exact h _ (by omega)
theorem ixN_neg1 {n : Nat} : ixN (n + 1) (-1) = some n := by
  unfold ixN; rw [if_neg (by omega), if_pos (by omega)]; congr 1; omega
theorem ixN_neg2 {n : Nat} : ixN (n + 2) (-2) = some n := by
  unfold ixN; rw [if_neg (by omega), if_pos (by omega)]; congr 1; omega
/-- what «in» tells of small data -/
def inT (x : D) (ds : List D) : Bool := (pysOf ds).any fun z => PyData.eqv z (pyOf x)
theorem inD_sm {neg : Bool} {x : D} {ds : List D} (hx : x.sm) (hs : smL ds) (h1 : x.dp ≤ 64) (h2 : dpL ds ≤ 63) : inD neg x (.lst ds) = some (.bl (xorB neg (inT x ds))) := by
  have p := sm_py hx
  have q := smL_pys hs
  show (match x.py, pys ds with
    | some p, some ps => if SeqAt.shaped p = true ∧ SeqAt.shaped (.list ps) = true then some (D.bl (xorB neg (ps.any fun z => PyData.eqv z p))) else none
    | _, _ => none) = _
  rw [p.py, q.py]
  dsimp only
  have sh : SeqAt.shaped (.list (pysOf ds)) = true := by
    unfold SeqAt.shaped
    have e1 : (PyData.list (pysOf ds)).canLay0 = true := by simp only [PyData.canLay0]; exact q.lay
    have e2 : (PyData.list (pysOf ds)).depth ≤ 64 := by simp only [PyData.depth, q.dp]; omega
    simp [e1, e2]
  rw [if_pos ⟨p.shaped h1, sh⟩]; rfl
theorem strs_sm {ys : List Str} (h : ∀ y ∈ ys, PyData.canLay0 (.str y) = true) : smL (ys.map D.str) := smL_iff.mpr fun d hd => by
  obtain ⟨y, hy, rfl⟩ := List.mem_map.mp hd
  exact h y hy
theorem strs_dp {ys : List Str} : dpL (ys.map D.str) ≤ 0 := dpL_le fun d hd => by
  obtain ⟨y, hy, rfl⟩ := List.mem_map.mp hd
  simp [D.dp]
theorem eqv_str {a b : Str} : PyData.eqv (.str a) (.str b) = (a == b) := by simp only [PyData.eqv]
theorem inT_str {x : Str} {ys : List Str} : inT (.str x) (ys.map D.str) = decide (x ∈ ys) := by
  show ((pysOf (ys.map D.str)).any fun z => PyData.eqv z (.str x)) = _
  induction ys with
  | nil => simp [pysOf]
  | cons y ys ih =>
    simp only [List.map_cons, pysOf, List.any_cons, ih, pyOf, eqv_str]
    by_cases e : y = x
    · subst e; simp
    · have e2 : ¬ x = y := fun z => e z.symm
      have e3 : (y == x) = false := by simpa using e
      simp [e2, e3]
theorem mem_range {lo c : Int} {n : Nat} {d : D} (h : d ∈ rangeL lo n c) : ∃ i : Nat, i < n ∧ d = .int (lo + i * c) := by
  unfold rangeL at h
  obtain ⟨i, hi, rfl⟩ := List.mem_map.mp h
  exact ⟨i, List.mem_range.mp hi, rfl⟩
@[simp] theorem range_len {lo c : Int} {n : Nat} : (rangeL lo n c).length = n := by unfold rangeL; simp
end L3

namespace GK13
open PySem PySem.Spec PyProof.Rows L2 L3
def top (i : Nat) : Stmt := PySem.Challenge.pw_pathbook_k13_legs_measured.main.body.getD i (.Pass ⟨0, 0, 0, 0⟩)
/-! ### steps_of -/
abbrev s_steps_of : Stmt := top 1
theorem sc_steps_of : FnScope ["leg", "first", "last", "number"] ["leg"] (defScope s_steps_of) := ⟨rfl, rfl, rfl, by decide +kernel, rfl, by decide +kernel, by decide +kernel⟩
def fb_steps_of : FS := (fSeq (fAsg (.tp [(.nm 1), (.nm 2)]) (fSl (fVar 0) (some (fC (.int 1))) none))
    (fSeq (fIf (fTest (fBin gLt (fVar 1) (fVar 2))) (fRet (fComp (.nm 3) (fRange range2 (fCons (fVar 1) (fCons (fVar 2) fNil))) fYes (fTup (fCons (fVar 3) (fCons (fC (.bl true)) fNil))) [3])) fNext)
    (fRet (fComp (.nm 3) (fRange range3 (fCons (fBin (g2 (dI iSub)) (fVar 1) (fC (.int 1))) (fCons (fBin (g2 (dI iSub)) (fVar 2) (fC (.int 1))) (fCons (fNeg (fC (.int 1))) fNil)))) fYes (fTup (fCons (fVar 3) (fCons (fC (.bl false)) fNil))) [3]))))
def F_steps_of : FnS := runF 1 4 fb_steps_of
abbrev X_steps_of (P : Program) (w : World) (K : PySem.W.Frag) (mg : Str → Option Value) (base : Heap) (f : Addr) (cdv : Value) (A : Around) (outer : List Env) (s : Shared) (H : Hp) (E : XK) : Cx := cxOf (L2.CX P w) P w K mg base ["leg", "first", "last", "number"] "steps_of" (defScope s_steps_of) f cdv A outer s H E
section
variable {P : Program} {w : World} {K : PySem.W.Frag} {mg : Str → Option Value} {base : Heap}
theorem fg_steps_of {f : Addr} {fd : FuncData} (T : Fun K "steps_of" "steps_of" s_steps_of f fd) (z_range : mg "range" = none) : FG P w K mg base 1 f fd ["leg"] (spF K 1 F_steps_of) := by
  have sc := sc_steps_of
  exact fg_body 1 4 T sc rfl rfl fun cdv A outer s H E room gd => ⟨_,
    (db_cons (ds_asg (de_sl (de_var 0) (.som de_int) .non) (dg_tup rfl (dgs_cons (dg_name sc.nd) (dgs_cons (dg_name sc.nd) dgs_nil))))
    (db_cons (ds_if (dt_lt (de_var 1) (de_var 2)) (db_one (ds_ret (de_comp rfl sc.nd (di_range2 z_range (da_cons (de_var 1) (da_cons (de_var 2) da_nil))) (blkOk_by (own := [("number", 3)]) (by rfl)) (fun _ _ _ _ _ => (dg_name sc.nd)) (fun _ _ _ _ _ => ⟨_, dts_nil⟩) (fun _ _ _ _ _ => ⟨_, (de_tup (da_cons (de_var 3) (da_cons de_bl da_nil)))⟩)))) db_nil)
    (db_one (ds_ret (de_comp rfl sc.nd (di_range3 z_range (da_cons (de_sub (de_var 1) de_int) (da_cons (de_sub (de_var 2) de_int) (da_cons (de_neg de_int) da_nil)))) (blkOk_by (own := [("number", 3)]) (by rfl)) (fun _ _ _ _ _ => (dg_name sc.nd)) (fun _ _ _ _ _ => ⟨_, dts_nil⟩) (fun _ _ _ _ _ => ⟨_, (de_tup (da_cons (de_var 3) (da_cons de_bl da_nil)))⟩))))))⟩
theorem df_steps_of {f : Addr} {fd : FuncData} (T : Fun K "steps_of" "steps_of" s_steps_of f fd) (hm : mg "steps_of" = some (.ref f)) (z_range : mg "range" = none) : Df P w K mg base 1 "steps_of" 1 F_steps_of [] [] :=
  df_of (fg_steps_of T z_range) hm T.kp (T.binds (ps := ["leg"]) fun _ _ _ _ _ _ us hl => match us, hl with | [_], _ => rfl)
end
/-! ### measure -/
abbrev s_measure : Stmt := top 2
theorem sc_measure : FnScope ["section", "leg", "length", "climb", "fall", "number", "forth", "more", "up", "down"] ["section", "leg"] (defScope s_measure) := ⟨rfl, rfl, rfl, by decide +kernel, rfl, by decide +kernel, by decide +kernel⟩
def fb_measure : FS := (fSeq (fIf (fTest (fBin gGe (fB (gD max2D) (fCons (fBin gIx (fVar 1) (fC (.int 1))) (fCons (fBin gIx (fVar 1) (fC (.int 2))) fNil))) (fB (gD lenD) (fCons (fBin gIx (fVar 0) (fC (.int 1))) fNil)))) (fRet (fC .non)) fNext)
    (fSeq (fAsg (.tp [(.nm 2), (.nm 3), (.nm 4)]) (fTup (fCons (fC (.int 0)) (fCons (fC (.int 0)) (fCons (fC (.int 0)) fNil)))))
    (fSeq (fFor (.tp [(.nm 5), (.nm 6)]) (fItems (fGo F_steps_of [] (fCons (fVar 1) fNil))) (fSeq (fAsg (.tp [(.nm 7), (.nm 8), (.nm 9)]) (fBin gIx (fBin gIx (fVar 0) (fC (.int 2))) (fVar 5)))
    (fSeq (fAug 2 gAdd2 (fVar 7))
    (fSeq (fAug 3 gAdd2 (fIfE (fTru (fVar 6)) (fVar 8) (fVar 9)))
    (fAug 4 gAdd2 (fIfE (fTru (fVar 6)) (fVar 9) (fVar 8)))))))
    (fRet (fTup (fCons (fVar 2) (fCons (fVar 3) (fCons (fVar 4) fNil))))))))
def F_measure : FnS := runF 2 10 fb_measure
abbrev X_measure (P : Program) (w : World) (K : PySem.W.Frag) (mg : Str → Option Value) (base : Heap) (f : Addr) (cdv : Value) (A : Around) (outer : List Env) (s : Shared) (H : Hp) (E : XK) : Cx := cxOf (L2.CX P w) P w K mg base ["section", "leg", "length", "climb", "fall", "number", "forth", "more", "up", "down"] "measure" (defScope s_measure) f cdv A outer s H E
section
variable {P : Program} {w : World} {K : PySem.W.Frag} {mg : Str → Option Value} {base : Heap}
theorem fg_measure {f : Addr} {fd : FuncData} (T : Fun K "measure" "measure" s_measure f fd) (D_steps_of : Df P w K mg base 1 "steps_of" 1 F_steps_of [] []) (z_max : mg "max" = none) (z_len : mg "len" = none) : FG P w K mg base 2 f fd ["section", "leg"] (spF K 2 F_measure) := by
  have sc := sc_measure
  exact fg_body 2 10 T sc rfl rfl fun cdv A outer s H E room gd => ⟨_,
    (db_cons (ds_if (dt_ge (de_max2 rfl z_max (da_cons (de_ix (unit1_of room) (de_var 1) de_int) (da_cons (de_ix (unit1_of room) (de_var 1) de_int) da_nil))) (de_len z_len (da_cons (de_ix (unit1_of room) (de_var 0) de_int) da_nil))) (db_one (ds_ret de_non)) db_nil)
    (db_cons (ds_asg (de_tup (da_cons de_int (da_cons de_int (da_cons de_int da_nil)))) (dg_tup rfl (dgs_cons (dg_name sc.nd) (dgs_cons (dg_name sc.nd) (dgs_cons (dg_name sc.nd) dgs_nil)))))
    (db_cons (ds_for rfl (di_any (de_call D_steps_of room gd (da_cons (de_var 1) da_nil))) (dg_tup rfl (dgs_cons (dg_name sc.nd) (dgs_cons (dg_name sc.nd) dgs_nil))) (db_cons (ds_asg (de_ix (unit1_of room) (de_ix (unit1_of room) (de_var 0) de_int) (de_var 5)) (dg_tup rfl (dgs_cons (dg_name sc.nd) (dgs_cons (dg_name sc.nd) (dgs_cons (dg_name sc.nd) dgs_nil)))))
    (db_cons (ds_augAdd (i := 2) sc.nd (de_var 7))
    (db_cons (ds_augAdd (i := 3) sc.nd (de_ifE (dt_truth (de_var 6)) (de_var 8) (de_var 9)))
    (db_one (ds_augAdd (i := 4) sc.nd (de_ifE (dt_truth (de_var 6)) (de_var 9) (de_var 8))))))))
    (db_one (ds_ret (de_tup (da_cons (de_var 2) (da_cons (de_var 3) (da_cons (de_var 4) da_nil)))))))))⟩
theorem df_measure {f : Addr} {fd : FuncData} (T : Fun K "measure" "measure" s_measure f fd) (hm : mg "measure" = some (.ref f)) (D_steps_of : Df P w K mg base 1 "steps_of" 1 F_steps_of [] []) (z_max : mg "max" = none) (z_len : mg "len" = none) : Df P w K mg base 2 "measure" 2 F_measure [] [] :=
  df_of (fg_measure T D_steps_of z_max z_len) hm T.kp (T.binds (ps := ["section", "leg"]) fun _ _ _ _ _ _ us hl => match us, hl with | [_, _], _ => rfl)
end
/-! ### _law_begin -/
abbrev s__law_begin : Stmt := top 4
theorem sc__law_begin : FnScope ["_law_script"] ["_law_script"] (defScope s__law_begin) := ⟨rfl, rfl, rfl, by decide +kernel, rfl, by decide +kernel, by decide +kernel⟩
def fb__law_begin : FS := (fRet (fDisp [((fC (.str "cells")), (fFrz (fBin gAdd (fVar 0) (fLst (fCons (fC (.int 0)) fNil))))), ((fC (.str "at")), (fC (.int 0))), ((fC (.str "left")), (fC (.int 0))), ((fC (.str "used")), (fC (.int 0)))]))
def F__law_begin : FnS := runF 1 1 fb__law_begin
abbrev X__law_begin (P : Program) (w : World) (K : PySem.W.Frag) (mg : Str → Option Value) (base : Heap) (f : Addr) (cdv : Value) (A : Around) (outer : List Env) (s : Shared) (H : Hp) (E : XK) : Cx := cxOf (L2.CX P w) P w K mg base ["_law_script"] "_law_begin" (defScope s__law_begin) f cdv A outer s H E
section
variable {P : Program} {w : World} {K : PySem.W.Frag} {mg : Str → Option Value} {base : Heap}
theorem fg__law_begin {f : Addr} {fd : FuncData} (T : Fun K "_law_begin" "_law_begin" s__law_begin f fd) : FG P w K mg base 1 f fd ["_law_script"] (spF K 1 F__law_begin) := by
  have sc := sc__law_begin
  exact fg_body 1 1 T sc rfl rfl fun cdv A outer s H E room gd => ⟨_,
    (db_one (ds_ret (de_disp (dp_cons de_str (de_frz (de_add (de_var 0) (de_lst (da_cons de_int da_nil)))) (dp_cons de_str de_int (dp_cons de_str de_int (dp_cons de_str de_int dp_nil)))))))⟩
theorem df__law_begin {f : Addr} {fd : FuncData} (T : Fun K "_law_begin" "_law_begin" s__law_begin f fd) (hm : mg "_law_begin" = some (.ref f)) : Df P w K mg base 1 "_law_begin" 1 F__law_begin [] [] :=
  df_of (fg__law_begin T) hm T.kp (T.binds (ps := ["_law_script"]) fun _ _ _ _ _ _ us hl => match us, hl with | [_], _ => rfl)
end
/-! ### _law_mixed -/
abbrev s__law_mixed : Stmt := top 5
theorem sc__law_mixed : FnScope ["_law_cell", "_law_k", "_law_number"] ["_law_cell", "_law_k"] (defScope s__law_mixed) := ⟨rfl, rfl, rfl, by decide +kernel, rfl, by decide +kernel, by decide +kernel⟩
def fb__law_mixed : FS := (fSeq (fSet 2 (fBin (g2 (dI iMod)) (fBin gAdd (fBin gAdd (fBin gAdd (fBin (g2 (dI iMod)) (fVar 0) (fC (.int 1000000007))) (fBin (g2 (dI iMul)) (fBin (g2 (dI iMul)) (fC (.int 7919)) (fVar 1)) (fVar 1))) (fBin (g2 (dI iMul)) (fC (.int 31)) (fVar 1))) (fC (.int 7))) (fC (.int 2147483647))))
    (fSeq (fSet 2 (fBin (g2 (dI iMod)) (fBin (g2 (dI iMul)) (fBin (g2 (dI iMod)) (fBin (g2 (dI iMul)) (fVar 2) (fVar 2)) (fC (.int 2147483647))) (fVar 2)) (fC (.int 2147483629))))
    (fRet (fBin (g2 (dI iDiv)) (fBin (g2 (dI iMod)) (fBin (g2 (dI iMul)) (fVar 2) (fBin gAdd (fC (.int 69621)) (fBin (g2 (dI iMul)) (fC (.int 2)) (fBin (g2 (dI iMod)) (fVar 1) (fC (.int 1000)))))) (fC (.int 2147483647))) (fC (.int 7))))))
def F__law_mixed : FnS := runF 2 3 fb__law_mixed
abbrev X__law_mixed (P : Program) (w : World) (K : PySem.W.Frag) (mg : Str → Option Value) (base : Heap) (f : Addr) (cdv : Value) (A : Around) (outer : List Env) (s : Shared) (H : Hp) (E : XK) : Cx := cxOf (L2.CX P w) P w K mg base ["_law_cell", "_law_k", "_law_number"] "_law_mixed" (defScope s__law_mixed) f cdv A outer s H E
section
variable {P : Program} {w : World} {K : PySem.W.Frag} {mg : Str → Option Value} {base : Heap}
theorem fg__law_mixed {f : Addr} {fd : FuncData} (T : Fun K "_law_mixed" "_law_mixed" s__law_mixed f fd) : FG P w K mg base 1 f fd ["_law_cell", "_law_k"] (spF K 2 F__law_mixed) := by
  have sc := sc__law_mixed
  exact fg_body 2 3 T sc rfl rfl fun cdv A outer s H E room gd => ⟨_,
    (db_cons (ds_set sc.nd (de_mod (de_add (de_add (de_add (de_mod (de_var 0) de_int) (de_mulI (de_mulI de_int (de_var 1)) (de_var 1))) (de_mulI de_int (de_var 1))) de_int) de_int))
    (db_cons (ds_set sc.nd (de_mod (de_mulI (de_mod (de_mulI (de_var 2) (de_var 2)) de_int) (de_var 2)) de_int))
    (db_one (ds_ret (de_fdiv (de_mod (de_mulI (de_var 2) (de_add de_int (de_mulI de_int (de_mod (de_var 1) de_int)))) de_int) de_int)))))⟩
theorem df__law_mixed {f : Addr} {fd : FuncData} (T : Fun K "_law_mixed" "_law_mixed" s__law_mixed f fd) (hm : mg "_law_mixed" = some (.ref f)) : Df P w K mg base 1 "_law_mixed" 2 F__law_mixed [] [] :=
  df_of (fg__law_mixed T) hm T.kp (T.binds (ps := ["_law_cell", "_law_k"]) fun _ _ _ _ _ _ us hl => match us, hl with | [_, _], _ => rfl)
end
/-! ### _law_next -/
abbrev s__law_next : Stmt := top 6
theorem sc__law_next : FnScope ["_law_draw", "_law_many", "_law_found", "_law_cells", "_law_cell"] ["_law_draw", "_law_many"] (defScope s__law_next) := ⟨rfl, rfl, rfl, by decide +kernel, rfl, by decide +kernel, by decide +kernel⟩
def fb__law_next : FS := (fSeq (fIf (fTest (fBin gGt (fBin gIx (fVar 0) (fC (.str "left"))) (fC (.int 0)))) (fSeq (fSet 2 (fBin (g2 (dI iMod)) (fBin gIx (fVar 0) (fC (.str "left"))) (fVar 1)))
    (fSeq (fStore (fVar 0) (fC (.str "left")) (fBin (g2 (dI iDiv)) (fBin gIx (fVar 0) (fC (.str "left"))) (fVar 1)))
    (fRet (fVar 2)))) fNext)
    (fSeq (fSet 3 (fBin gIx (fVar 0) (fC (.str "cells"))))
    (fSeq (fSet 4 (fBin gIx (fVar 3) (fBin (g2 (dI iMod)) (fBin gIx (fVar 0) (fC (.str "at"))) (fB (gD lenD) (fCons (fVar 3) fNil)))))
    (fSeq (fStore (fVar 0) (fC (.str "at")) (fBin gAdd (fBin gIx (fVar 0) (fC (.str "at"))) (fC (.int 1))))
    (fSeq (fIf (fAnd (fTest (fBin gGe (fVar 4) (fBin (g2 (dI iPow)) (fC (.int 10)) (fC (.int 18))))) (fTest (fBin gLe (fBin gIx (fVar 0) (fC (.str "at"))) (fB (gD lenD) (fCons (fVar 3) fNil))))) (fSeq (fStore (fVar 0) (fC (.str "left")) (fBin (g2 (dI iDiv)) (fVar 4) (fVar 1)))
    (fRet (fBin (g2 (dI iMod)) (fVar 4) (fVar 1)))) fNext)
    (fSeq (fStore (fVar 0) (fC (.str "used")) (fBin gAdd (fBin gIx (fVar 0) (fC (.str "used"))) (fC (.int 1))))
    (fRet (fBin (g2 (dI iMod)) (fGo F__law_mixed [] (fCons (fGo F__law_mixed [] (fCons (fVar 4) (fCons (fBin gIx (fVar 0) (fC (.str "at"))) fNil))) (fCons (fBin gIx (fVar 0) (fC (.str "used"))) fNil))) (fVar 1)))))))))
def F__law_next : FnS := runF 2 5 fb__law_next
abbrev X__law_next (P : Program) (w : World) (K : PySem.W.Frag) (mg : Str → Option Value) (base : Heap) (f : Addr) (cdv : Value) (A : Around) (outer : List Env) (s : Shared) (H : Hp) (E : XK) : Cx := cxOf (L2.CX P w) P w K mg base ["_law_draw", "_law_many", "_law_found", "_law_cells", "_law_cell"] "_law_next" (defScope s__law_next) f cdv A outer s H E
section
variable {P : Program} {w : World} {K : PySem.W.Frag} {mg : Str → Option Value} {base : Heap}
theorem fg__law_next {f : Addr} {fd : FuncData} (T : Fun K "_law_next" "_law_next" s__law_next f fd) (D__law_mixed : Df P w K mg base 1 "_law_mixed" 2 F__law_mixed [] []) (z_len : mg "len" = none) : FG P w K mg base 2 f fd ["_law_draw", "_law_many"] (spF K 2 F__law_next) := by
  have sc := sc__law_next
  exact fg_body 2 5 T sc rfl rfl fun cdv A outer s H E room gd => ⟨_,
    (db_cons (ds_if (dt_gt (de_ix (unit1_of room) (de_var 0) de_str) de_int) (db_cons (ds_set sc.nd (de_mod (de_ix (unit1_of room) (de_var 0) de_str) (de_var 1)))
    (db_cons (ds_store (unit1_of room) (de_fdiv (de_ix (unit1_of room) (de_var 0) de_str) (de_var 1)) (de_var 0) de_str)
    (db_one (ds_ret (de_var 2))))) db_nil)
    (db_cons (ds_set sc.nd (de_ix (unit1_of room) (de_var 0) de_str))
    (db_cons (ds_set sc.nd (de_ix (unit1_of room) (de_var 3) (de_mod (de_ix (unit1_of room) (de_var 0) de_str) (de_len z_len (da_cons (de_var 3) da_nil)))))
    (db_cons (ds_store (unit1_of room) (de_add (de_ix (unit1_of room) (de_var 0) de_str) de_int) (de_var 0) de_str)
    (db_cons (ds_if (DW.dt (dw_and (dt_ge (de_var 4) (de_pow de_int de_int)) (dw_and1 (dt_le (de_ix (unit1_of room) (de_var 0) de_str) (de_len z_len (da_cons (de_var 3) da_nil)))))) (db_cons (ds_store (unit1_of room) (de_fdiv (de_var 4) (de_var 1)) (de_var 0) de_str)
    (db_one (ds_ret (de_mod (de_var 4) (de_var 1))))) db_nil)
    (db_cons (ds_store (unit1_of room) (de_add (de_ix (unit1_of room) (de_var 0) de_str) de_int) (de_var 0) de_str)
    (db_one (ds_ret (de_mod (de_call D__law_mixed room gd (da_cons (de_call D__law_mixed room gd (da_cons (de_var 4) (da_cons (de_ix (unit1_of room) (de_var 0) de_str) da_nil))) (da_cons (de_ix (unit1_of room) (de_var 0) de_str) da_nil))) (de_var 1))))))))))⟩
theorem df__law_next {f : Addr} {fd : FuncData} (T : Fun K "_law_next" "_law_next" s__law_next f fd) (hm : mg "_law_next" = some (.ref f)) (D__law_mixed : Df P w K mg base 1 "_law_mixed" 2 F__law_mixed [] []) (z_len : mg "len" = none) : Df P w K mg base 2 "_law_next" 2 F__law_next [] [] :=
  df_of (fg__law_next T D__law_mixed z_len) hm T.kp (T.binds (ps := ["_law_draw", "_law_many"]) fun _ _ _ _ _ _ us hl => match us, hl with | [_, _], _ => rfl)
end
/-! ### _law_words -/
abbrev s__law_words : Stmt := top 7
theorem sc__law_words : FnScope ["_law_draw", "_law_many", "_law_letters", "_law_found", "_law_size", "_law_word", "_law_words_here", "_law_rest", "_law_k", "_law_one"] ["_law_draw", "_law_many"] (defScope s__law_words) := ⟨rfl, rfl, rfl, by decide +kernel, rfl, by decide +kernel, by decide +kernel⟩
def fb__law_words : FS := (fSeq (fSet 2 (fC (.str "abcdefghijklmnopqrstuvwxyz")))
    (fSeq (fSet 3 (fLst fNil))
    (fSeq (whileF 1000 (fTest (fBin gLt (fB (gD lenD) (fCons (fVar 3) fNil)) (fVar 1))) (fSeq (fSet 4 (fBin gIx (fLst (fCons (fBin gAdd (fC (.int 1)) (fGo F__law_next [] (fCons (fVar 0) (fCons (fC (.int 2)) fNil)))) (fCons (fBin gAdd (fC (.int 1)) (fGo F__law_next [] (fCons (fVar 0) (fCons (fC (.int 8)) fNil)))) (fCons (fC (.int 8)) fNil)))) (fGo F__law_next [] (fCons (fVar 0) (fCons (fC (.int 3)) fNil)))))
    (fSeq (fSet 5 (fM1 (g2 dJoin) (fC (.str "")) (fComp (.nm 8) (fRange range1 (fCons (fVar 4) fNil)) fYes (fBin gIx (fVar 2) (fGo F__law_next [] (fCons (fVar 0) (fCons (fC (.int 26)) fNil)))) [8])))
    (fSeq (fIf (fTest (fBin (g2 dEq) (fGo F__law_next [] (fCons (fVar 0) (fCons (fC (.int 9)) fNil))) (fC (.int 0)))) (fSeq (fSet 6 (fM1 gSplit (fC (.str "ride book closed walk section halts beside badge length climb")) (fC (.str " "))))
    (fSet 5 (fBin gIx (fVar 6) (fGo F__law_next [] (fCons (fVar 0) (fCons (fC (.int 10)) fNil)))))) fNext)
    (fSeq (fIf (fTest (fBin (g2 (inD false)) (fVar 5) (fVar 3))) (fSeq (fSet 7 (fComp (.nm 8) (fRange range1 (fCons (fC (.int 676)) fNil)) fYes (fBin gAdd (fBin gIx (fVar 2) (fBin (g2 (dI iDiv)) (fVar 8) (fC (.int 26)))) (fBin gIx (fVar 2) (fBin (g2 (dI iMod)) (fVar 8) (fC (.int 26))))) [8]))
    (fSet 5 (fBin gIx (fComp (.nm 9) (fItems (fVar 7)) (fTest (fBin (g2 (inD true)) (fVar 9) (fVar 3))) (fVar 9) [9]) (fGo F__law_next [] (fCons (fVar 0) (fCons (fC (.int 600)) fNil)))))) fNext)
    (fAppend (fVar 3) (fVar 5)))))))
    (fRet (fVar 3)))))
def F__law_words : FnS := runF 2 10 fb__law_words
abbrev X__law_words (P : Program) (w : World) (K : PySem.W.Frag) (mg : Str → Option Value) (base : Heap) (f : Addr) (cdv : Value) (A : Around) (outer : List Env) (s : Shared) (H : Hp) (E : XK) : Cx := cxOf (L2.CX P w) P w K mg base ["_law_draw", "_law_many", "_law_letters", "_law_found", "_law_size", "_law_word", "_law_words_here", "_law_rest", "_law_k", "_law_one"] "_law_words" (defScope s__law_words) f cdv A outer s H E
section
variable {P : Program} {w : World} {K : PySem.W.Frag} {mg : Str → Option Value} {base : Heap}
theorem fg__law_words {f : Addr} {fd : FuncData} (T : Fun K "_law_words" "_law_words" s__law_words f fd) (D__law_next : Df P w K mg base 2 "_law_next" 2 F__law_next [] []) (z_len : mg "len" = none) (z_range : mg "range" = none) : FG P w K mg base 3 f fd ["_law_draw", "_law_many"] (spF K 2 F__law_words) := by
  have sc := sc__law_words
  exact fg_body 2 10 T sc rfl rfl fun cdv A outer s H E room gd => ⟨_,
    (db_cons (ds_set sc.nd de_str)
    (db_cons (ds_set sc.nd (de_lst da_nil))
    (db_cons (ds_while (dt_lt (de_len z_len (da_cons (de_var 3) da_nil)) (de_var 1)) (db_cons (ds_set sc.nd (de_ix (unit1_of room) (de_lst (da_cons (de_add de_int (de_call D__law_next room gd (da_cons (de_var 0) (da_cons de_int da_nil)))) (da_cons (de_add de_int (de_call D__law_next room gd (da_cons (de_var 0) (da_cons de_int da_nil)))) (da_cons de_int da_nil)))) (de_call D__law_next room gd (da_cons (de_var 0) (da_cons de_int da_nil)))))
    (db_cons (ds_set sc.nd (de_join de_str (de_comp rfl sc.nd (di_range1 z_range (da_cons (de_var 4) da_nil)) (blkOk_by (own := [("_law_k", 8)]) (by rfl)) (fun _ _ _ _ _ => (dg_name sc.nd)) (fun _ _ _ _ _ => ⟨_, dts_nil⟩) (fun _ _ _ _ _ => ⟨_, (de_ix (unit1_of room) (de_var 2) (de_call D__law_next room gd (da_cons (de_var 0) (da_cons de_int da_nil))))⟩))))
    (db_cons (ds_if (dt_eq (units_of room) (de_call D__law_next room gd (da_cons (de_var 0) (da_cons de_int da_nil))) de_int) (db_cons (ds_set sc.nd (de_split de_str de_str))
    (db_one (ds_set sc.nd (de_ix (unit1_of room) (de_var 6) (de_call D__law_next room gd (da_cons (de_var 0) (da_cons de_int da_nil))))))) db_nil)
    (db_cons (ds_if (dt_in (units_of room) (de_var 5) (de_var 3)) (db_cons (ds_setComp rfl sc.nd (di_range1 z_range (da_cons de_int da_nil)) (blkOk_by (own := [("_law_k", 8)]) (by rfl)) (fun _ _ _ _ _ => (dg_name sc.nd)) (fun _ _ _ _ _ => ⟨_, dts_nil⟩) (fun _ _ _ _ _ => ⟨_, (de_add (de_ix (unit1_of room) (de_var 2) (de_fdiv (de_var 8) de_int)) (de_ix (unit1_of room) (de_var 2) (de_mod (de_var 8) de_int)))⟩))
    (db_one (ds_set sc.nd (de_ix (unit1_of room) (de_comp rfl sc.nd (di_any (de_var 7)) (blkOk_by (own := [("_law_one", 9)]) (by rfl)) (fun _ _ _ _ _ => (dg_name sc.nd)) (fun _ _ _ _ _ => ⟨_, (dts_one (dt_notIn (units_of room) (de_var 9) (de_var 3)))⟩) (fun _ _ _ _ _ => ⟨_, (de_var 9)⟩)) (de_call D__law_next room gd (da_cons (de_var 0) (da_cons de_int da_nil))))))) db_nil)
    (db_one (ds_append (de_var 3) (de_var 5))))))))
    (db_one (ds_ret (de_var 3))))))⟩
theorem df__law_words {f : Addr} {fd : FuncData} (T : Fun K "_law_words" "_law_words" s__law_words f fd) (hm : mg "_law_words" = some (.ref f)) (D__law_next : Df P w K mg base 2 "_law_next" 2 F__law_next [] []) (z_len : mg "len" = none) (z_range : mg "range" = none) : Df P w K mg base 3 "_law_words" 2 F__law_words [] [] :=
  df_of (fg__law_words T D__law_next z_len z_range) hm T.kp (T.binds (ps := ["_law_draw", "_law_many"]) fun _ _ _ _ _ _ us hl => match us, hl with | [_, _], _ => rfl)
end
/-! ### _law_stretch -/
abbrev s__law_stretch : Stmt := top 8
theorem sc__law_stretch : FnScope ["_law_draw", "_law_way"] ["_law_draw"] (defScope s__law_stretch) := ⟨rfl, rfl, rfl, by decide +kernel, rfl, by decide +kernel, by decide +kernel⟩
def fb__law_stretch : FS := (fSeq (fSet 1 (fGo F__law_next [] (fCons (fVar 0) (fCons (fC (.int 4)) fNil))))
    (fSeq (fIf (fTest (fBin (g2 dEq) (fVar 1) (fC (.int 0)))) (fRet (fTup (fCons (fBin gAdd (fC (.int 1)) (fGo F__law_next [] (fCons (fVar 0) (fCons (fC (.int 999)) fNil)))) (fCons (fGo F__law_next [] (fCons (fVar 0) (fCons (fC (.int 1000)) fNil))) (fCons (fGo F__law_next [] (fCons (fVar 0) (fCons (fC (.int 1000)) fNil))) fNil))))) fNext)
    (fSeq (fIf (fTest (fBin (g2 dEq) (fVar 1) (fC (.int 1)))) (fRet (fTup (fCons (fC (.int 1)) (fCons (fC (.int 0)) (fCons (fGo F__law_next [] (fCons (fVar 0) (fCons (fC (.int 2)) fNil))) fNil))))) fNext)
    (fSeq (fIf (fTest (fBin (g2 dEq) (fVar 1) (fC (.int 2)))) (fRet (fTup (fCons (fC (.int 999)) (fCons (fC (.int 999)) (fCons (fBin (g2 (dI iMul)) (fC (.int 999)) (fGo F__law_next [] (fCons (fVar 0) (fCons (fC (.int 2)) fNil)))) fNil))))) fNext)
    (fRet (fTup (fCons (fBin gAdd (fC (.int 1)) (fGo F__law_next [] (fCons (fVar 0) (fCons (fC (.int 9)) fNil)))) (fCons (fGo F__law_next [] (fCons (fVar 0) (fCons (fC (.int 9)) fNil))) (fCons (fGo F__law_next [] (fCons (fVar 0) (fCons (fC (.int 9)) fNil))) fNil)))))))))
def F__law_stretch : FnS := runF 1 2 fb__law_stretch
abbrev X__law_stretch (P : Program) (w : World) (K : PySem.W.Frag) (mg : Str → Option Value) (base : Heap) (f : Addr) (cdv : Value) (A : Around) (outer : List Env) (s : Shared) (H : Hp) (E : XK) : Cx := cxOf (L2.CX P w) P w K mg base ["_law_draw", "_law_way"] "_law_stretch" (defScope s__law_stretch) f cdv A outer s H E
section
variable {P : Program} {w : World} {K : PySem.W.Frag} {mg : Str → Option Value} {base : Heap}
theorem fg__law_stretch {f : Addr} {fd : FuncData} (T : Fun K "_law_stretch" "_law_stretch" s__law_stretch f fd) (D__law_next : Df P w K mg base 2 "_law_next" 2 F__law_next [] []) : FG P w K mg base 3 f fd ["_law_draw"] (spF K 1 F__law_stretch) := by
  have sc := sc__law_stretch
  exact fg_body 1 2 T sc rfl rfl fun cdv A outer s H E room gd => ⟨_,
    (db_cons (ds_set sc.nd (de_call D__law_next room gd (da_cons (de_var 0) (da_cons de_int da_nil))))
    (db_cons (ds_if (dt_eq (units_of room) (de_var 1) de_int) (db_one (ds_ret (de_tup (da_cons (de_add de_int (de_call D__law_next room gd (da_cons (de_var 0) (da_cons de_int da_nil)))) (da_cons (de_call D__law_next room gd (da_cons (de_var 0) (da_cons de_int da_nil))) (da_cons (de_call D__law_next room gd (da_cons (de_var 0) (da_cons de_int da_nil))) da_nil)))))) db_nil)
    (db_cons (ds_if (dt_eq (units_of room) (de_var 1) de_int) (db_one (ds_ret (de_tup (da_cons de_int (da_cons de_int (da_cons (de_call D__law_next room gd (da_cons (de_var 0) (da_cons de_int da_nil))) da_nil)))))) db_nil)
    (db_cons (ds_if (dt_eq (units_of room) (de_var 1) de_int) (db_one (ds_ret (de_tup (da_cons de_int (da_cons de_int (da_cons (de_mulI de_int (de_call D__law_next room gd (da_cons (de_var 0) (da_cons de_int da_nil)))) da_nil)))))) db_nil)
    (db_one (ds_ret (de_tup (da_cons (de_add de_int (de_call D__law_next room gd (da_cons (de_var 0) (da_cons de_int da_nil)))) (da_cons (de_call D__law_next room gd (da_cons (de_var 0) (da_cons de_int da_nil))) (da_cons (de_call D__law_next room gd (da_cons (de_var 0) (da_cons de_int da_nil))) da_nil))))))))))⟩
theorem df__law_stretch {f : Addr} {fd : FuncData} (T : Fun K "_law_stretch" "_law_stretch" s__law_stretch f fd) (hm : mg "_law_stretch" = some (.ref f)) (D__law_next : Df P w K mg base 2 "_law_next" 2 F__law_next [] []) : Df P w K mg base 3 "_law_stretch" 1 F__law_stretch [] [] :=
  df_of (fg__law_stretch T D__law_next) hm T.kp (T.binds (ps := ["_law_draw"]) fun _ _ _ _ _ _ us hl => match us, hl with | [_], _ => rfl)
end
/-! ### _law_section -/
abbrev s__law_section : Stmt := top 9
theorem sc__law_section : FnScope ["_law_draw", "_law_name", "_law_pool", "_law_many", "_law_marks", "_law_ways", "_law_rest", "_law_one", "_law_k"] ["_law_draw", "_law_name", "_law_pool"] (defScope s__law_section) := ⟨rfl, rfl, rfl, by decide +kernel, rfl, by decide +kernel, by decide +kernel⟩
def fb__law_section : FS := (fSeq (fSet 3 (fBin gIx (fLst (fCons (fBin gAdd (fC (.int 2)) (fGo F__law_next [] (fCons (fVar 0) (fCons (fC (.int 7)) fNil)))) (fCons (fBin gAdd (fC (.int 2)) (fGo F__law_next [] (fCons (fVar 0) (fCons (fC (.int 3)) fNil)))) (fCons (fC (.int 8)) fNil)))) (fGo F__law_next [] (fCons (fVar 0) (fCons (fC (.int 3)) fNil)))))
    (fSeq (fPar [4, 5, 6] (fCons (fLst (fCons (fBin gIx (fVar 2) (fGo F__law_next [] (fCons (fVar 0) (fCons (fB (gD lenD) (fCons (fVar 2) fNil)) fNil)))) fNil)) (fCons (fLst fNil) (fCons (fVar 2) fNil))))
    (fSeq (whileF 1000 (fAnd (fTest (fBin gLt (fB (gD lenD) (fCons (fVar 4) fNil)) (fVar 3))) (fTest (fBin (g2 dNe) (fVar 6) (fLst fNil)))) (fSeq (fSet 6 (fComp (.nm 7) (fItems (fVar 2)) (fAnd (fTest (fBin (g2 dNe) (fVar 7) (fBin gIx (fVar 4) (fNeg (fC (.int 1)))))) (fTest (fBin (g2 (inD true)) (fTup (fCons (fBin gIx (fVar 4) (fNeg (fC (.int 1)))) (fCons (fVar 7) fNil))) (fVar 5)))) (fVar 7) [7]))
    (fIf (fTest (fBin (g2 dNe) (fVar 6) (fLst fNil))) (fSeq (fAppend (fVar 4) (fBin gIx (fVar 6) (fGo F__law_next [] (fCons (fVar 0) (fCons (fB (gD lenD) (fCons (fVar 6) fNil)) fNil)))))
    (fSet 5 (fBin gAdd (fVar 5) (fLst (fCons (fTup (fCons (fBin gIx (fVar 4) (fNeg (fC (.int 2)))) (fCons (fBin gIx (fVar 4) (fNeg (fC (.int 1)))) fNil))) (fCons (fTup (fCons (fBin gIx (fVar 4) (fNeg (fC (.int 1)))) (fCons (fBin gIx (fVar 4) (fNeg (fC (.int 2)))) fNil))) fNil)))))) fNext)))
    (fRet (fTup (fCons (fVar 1) (fCons (fB gTupOf (fCons (fVar 4) fNil)) (fCons (fB gTupOf (fCons (fComp (.nm 8) (fRange range1 (fCons (fBin (g2 (dI iSub)) (fB (gD lenD) (fCons (fVar 4) fNil)) (fC (.int 1))) fNil)) fYes (fGo F__law_stretch [] (fCons (fVar 0) fNil)) [8]) fNil)) fNil))))))))
def F__law_section : FnS := runF 3 9 fb__law_section
abbrev X__law_section (P : Program) (w : World) (K : PySem.W.Frag) (mg : Str → Option Value) (base : Heap) (f : Addr) (cdv : Value) (A : Around) (outer : List Env) (s : Shared) (H : Hp) (E : XK) : Cx := cxOf (L2.CX P w) P w K mg base ["_law_draw", "_law_name", "_law_pool", "_law_many", "_law_marks", "_law_ways", "_law_rest", "_law_one", "_law_k"] "_law_section" (defScope s__law_section) f cdv A outer s H E
section
variable {P : Program} {w : World} {K : PySem.W.Frag} {mg : Str → Option Value} {base : Heap}
theorem fg__law_section {f : Addr} {fd : FuncData} (T : Fun K "_law_section" "_law_section" s__law_section f fd) (D__law_next : Df P w K mg base 2 "_law_next" 2 F__law_next [] []) (D__law_stretch : Df P w K mg base 3 "_law_stretch" 1 F__law_stretch [] []) (z_len : mg "len" = none) (z_range : mg "range" = none) (z_tuple : mg "tuple" = none) : FG P w K mg base 4 f fd ["_law_draw", "_law_name", "_law_pool"] (spF K 3 F__law_section) := by
  have sc := sc__law_section
  exact fg_body 3 9 T sc rfl rfl fun cdv A outer s H E room gd => ⟨_,
    (db_cons (ds_set sc.nd (de_ix (unit1_of room) (de_lst (da_cons (de_add de_int (de_call D__law_next room gd (da_cons (de_var 0) (da_cons de_int da_nil)))) (da_cons (de_add de_int (de_call D__law_next room gd (da_cons (de_var 0) (da_cons de_int da_nil)))) (da_cons de_int da_nil)))) (de_call D__law_next room gd (da_cons (de_var 0) (da_cons de_int da_nil)))))
    (db_cons (ds_parT rfl (da_cons (de_lst (da_cons (de_ix (unit1_of room) (de_var 2) (de_call D__law_next room gd (da_cons (de_var 0) (da_cons (de_len z_len (da_cons (de_var 2) da_nil)) da_nil)))) da_nil)) (da_cons (de_lst da_nil) (da_cons (de_var 2) da_nil))) (dn_cons (i := 4) sc.nd (dn_cons (i := 5) sc.nd (dn_cons (i := 6) sc.nd .nil))))
    (db_cons (ds_while (DW.dt (dw_and (dt_lt (de_len z_len (da_cons (de_var 4) da_nil)) (de_var 3)) (dw_and1 (dt_ne (units_of room) (de_var 6) (de_lst da_nil))))) (db_cons (ds_setComp rfl sc.nd (di_any (de_var 2)) (blkOk_by (own := [("_law_one", 7)]) (by rfl)) (fun _ _ _ _ _ => (dg_name sc.nd)) (fun _ _ _ _ _ => ⟨_, (dts_one (DW.dt (dw_and (dt_ne (units_of room) (de_var 7) (de_ix (unit1_of room) (de_var 4) (de_neg de_int))) (dw_and1 (dt_notIn (units_of room) (de_tup (da_cons (de_ix (unit1_of room) (de_var 4) (de_neg de_int)) (da_cons (de_var 7) da_nil))) (de_var 5))))))⟩) (fun _ _ _ _ _ => ⟨_, (de_var 7)⟩))
    (db_one (ds_if (dt_ne (units_of room) (de_var 6) (de_lst da_nil)) (db_cons (ds_append (de_var 4) (de_ix (unit1_of room) (de_var 6) (de_call D__law_next room gd (da_cons (de_var 0) (da_cons (de_len z_len (da_cons (de_var 6) da_nil)) da_nil)))))
    (db_one (ds_set sc.nd (de_add (de_var 5) (de_lst (da_cons (de_tup (da_cons (de_ix (unit1_of room) (de_var 4) (de_neg de_int)) (da_cons (de_ix (unit1_of room) (de_var 4) (de_neg de_int)) da_nil))) (da_cons (de_tup (da_cons (de_ix (unit1_of room) (de_var 4) (de_neg de_int)) (da_cons (de_ix (unit1_of room) (de_var 4) (de_neg de_int)) da_nil))) da_nil))))))) db_nil))))
    (db_one (ds_ret (de_tup (da_cons (de_var 1) (da_cons (de_tuple z_tuple (da_cons (de_var 4) da_nil)) (da_cons (de_tuple z_tuple (da_cons (de_comp rfl sc.nd (di_range1 z_range (da_cons (de_sub (de_len z_len (da_cons (de_var 4) da_nil)) de_int) da_nil)) (blkOk_by (own := [("_law_k", 8)]) (by rfl)) (fun _ _ _ _ _ => (dg_name sc.nd)) (fun _ _ _ _ _ => ⟨_, dts_nil⟩) (fun _ _ _ _ _ => ⟨_, (de_call D__law_stretch room gd (da_cons (de_var 0) da_nil))⟩)) da_nil)) da_nil)))))))))⟩
theorem df__law_section {f : Addr} {fd : FuncData} (T : Fun K "_law_section" "_law_section" s__law_section f fd) (hm : mg "_law_section" = some (.ref f)) (D__law_next : Df P w K mg base 2 "_law_next" 2 F__law_next [] []) (D__law_stretch : Df P w K mg base 3 "_law_stretch" 1 F__law_stretch [] []) (z_len : mg "len" = none) (z_range : mg "range" = none) (z_tuple : mg "tuple" = none) : Df P w K mg base 4 "_law_section" 3 F__law_section [] [] :=
  df_of (fg__law_section T D__law_next D__law_stretch z_len z_range z_tuple) hm T.kp (T.binds (ps := ["_law_draw", "_law_name", "_law_pool"]) fun _ _ _ _ _ _ us hl => match us, hl with | [_, _, _], _ => rfl)
end
/-! ### _law_steps -/
abbrev s__law_steps : Stmt := top 10
theorem sc__law_steps : FnScope ["_law_leg", "_law_least", "_law_most", "_law_number"] ["_law_leg"] (defScope s__law_steps) := ⟨rfl, rfl, rfl, by decide +kernel, rfl, by decide +kernel, by decide +kernel⟩
def fb__law_steps : FS := (fSeq (fPar [1, 2] (fCons (fB (gD min2D) (fCons (fBin gIx (fVar 0) (fC (.int 1))) (fCons (fBin gIx (fVar 0) (fC (.int 2))) fNil))) (fCons (fB (gD max2D) (fCons (fBin gIx (fVar 0) (fC (.int 1))) (fCons (fBin gIx (fVar 0) (fC (.int 2))) fNil))) fNil)))
    (fSeq (fIf (fTest (fBin (g2 dEq) (fVar 1) (fBin gIx (fVar 0) (fC (.int 1))))) (fRet (fComp (.nm 3) (fRange range2 (fCons (fVar 1) (fCons (fVar 2) fNil))) fYes (fTup (fCons (fVar 3) (fCons (fC (.bl true)) fNil))) [3])) fNext)
    (fRet (fComp (.nm 3) (fRange range1 (fCons (fBin (g2 (dI iSub)) (fVar 2) (fVar 1)) fNil)) fYes (fTup (fCons (fBin (g2 (dI iSub)) (fBin (g2 (dI iSub)) (fVar 2) (fC (.int 1))) (fVar 3)) (fCons (fC (.bl false)) fNil))) [3]))))
def F__law_steps : FnS := runF 1 4 fb__law_steps
abbrev X__law_steps (P : Program) (w : World) (K : PySem.W.Frag) (mg : Str → Option Value) (base : Heap) (f : Addr) (cdv : Value) (A : Around) (outer : List Env) (s : Shared) (H : Hp) (E : XK) : Cx := cxOf (L2.CX P w) P w K mg base ["_law_leg", "_law_least", "_law_most", "_law_number"] "_law_steps" (defScope s__law_steps) f cdv A outer s H E
section
variable {P : Program} {w : World} {K : PySem.W.Frag} {mg : Str → Option Value} {base : Heap}
theorem fg__law_steps {f : Addr} {fd : FuncData} (T : Fun K "_law_steps" "_law_steps" s__law_steps f fd) (z_max : mg "max" = none) (z_min : mg "min" = none) (z_range : mg "range" = none) : FG P w K mg base 1 f fd ["_law_leg"] (spF K 1 F__law_steps) := by
  have sc := sc__law_steps
  exact fg_body 1 4 T sc rfl rfl fun cdv A outer s H E room gd => ⟨_,
    (db_cons (ds_parT rfl (da_cons (de_min2 rfl z_min (da_cons (de_ix (unit1_of room) (de_var 0) de_int) (da_cons (de_ix (unit1_of room) (de_var 0) de_int) da_nil))) (da_cons (de_max2 rfl z_max (da_cons (de_ix (unit1_of room) (de_var 0) de_int) (da_cons (de_ix (unit1_of room) (de_var 0) de_int) da_nil))) da_nil)) (dn_cons (i := 1) sc.nd (dn_cons (i := 2) sc.nd .nil)))
    (db_cons (ds_if (dt_eq (units_of room) (de_var 1) (de_ix (unit1_of room) (de_var 0) de_int)) (db_one (ds_ret (de_comp rfl sc.nd (di_range2 z_range (da_cons (de_var 1) (da_cons (de_var 2) da_nil))) (blkOk_by (own := [("_law_number", 3)]) (by rfl)) (fun _ _ _ _ _ => (dg_name sc.nd)) (fun _ _ _ _ _ => ⟨_, dts_nil⟩) (fun _ _ _ _ _ => ⟨_, (de_tup (da_cons (de_var 3) (da_cons de_bl da_nil)))⟩)))) db_nil)
    (db_one (ds_ret (de_comp rfl sc.nd (di_range1 z_range (da_cons (de_sub (de_var 2) (de_var 1)) da_nil)) (blkOk_by (own := [("_law_number", 3)]) (by rfl)) (fun _ _ _ _ _ => (dg_name sc.nd)) (fun _ _ _ _ _ => ⟨_, dts_nil⟩) (fun _ _ _ _ _ => ⟨_, (de_tup (da_cons (de_sub (de_sub (de_var 2) de_int) (de_var 3)) (da_cons de_bl da_nil)))⟩))))))⟩
theorem df__law_steps {f : Addr} {fd : FuncData} (T : Fun K "_law_steps" "_law_steps" s__law_steps f fd) (hm : mg "_law_steps" = some (.ref f)) (z_max : mg "max" = none) (z_min : mg "min" = none) (z_range : mg "range" = none) : Df P w K mg base 1 "_law_steps" 1 F__law_steps [] [] :=
  df_of (fg__law_steps T z_max z_min z_range) hm T.kp (T.binds (ps := ["_law_leg"]) fun _ _ _ _ _ _ us hl => match us, hl with | [_], _ => rfl)
end
/-! ### _law_due -/
abbrev s__law_due : Stmt := top 11
theorem sc__law_due : FnScope ["_law_section_here", "_law_leg", "_law_least", "_law_most", "_law_rows", "_law_length", "_law_up", "_law_down", "_law_row"] ["_law_section_here", "_law_leg"] (defScope s__law_due) := ⟨rfl, rfl, rfl, by decide +kernel, rfl, by decide +kernel, by decide +kernel⟩
def fb__law_due : FS := (fSeq (fPar [2, 3] (fCons (fB (gD min2D) (fCons (fBin gIx (fVar 1) (fC (.int 1))) (fCons (fBin gIx (fVar 1) (fC (.int 2))) fNil))) (fCons (fB (gD max2D) (fCons (fBin gIx (fVar 1) (fC (.int 1))) (fCons (fBin gIx (fVar 1) (fC (.int 2))) fNil))) fNil)))
    (fSeq (fIf (fTest (fBin gGt (fVar 3) (fB (gD lenD) (fCons (fBin gIx (fVar 0) (fC (.int 2))) fNil)))) (fRet (fC .non)) fNext)
    (fSeq (fSet 4 (fSl (fBin gIx (fVar 0) (fC (.int 2))) (some (fVar 2)) (some (fVar 3))))
    (fSeq (fPar [5, 6, 7] (fCons (fB (gD sumD) (fCons (fComp (.nm 8) (fItems (fVar 4)) fYes (fBin gIx (fVar 8) (fC (.int 0))) [8]) fNil)) (fCons (fB (gD sumD) (fCons (fComp (.nm 8) (fItems (fVar 4)) fYes (fBin gIx (fVar 8) (fC (.int 1))) [8]) fNil)) (fCons (fB (gD sumD) (fCons (fComp (.nm 8) (fItems (fVar 4)) fYes (fBin gIx (fVar 8) (fC (.int 2))) [8]) fNil)) fNil))))
    (fRet (fIfE (fTest (fBin (g2 dEq) (fVar 2) (fBin gIx (fVar 1) (fC (.int 1))))) (fTup (fCons (fVar 5) (fCons (fVar 6) (fCons (fVar 7) fNil)))) (fTup (fCons (fVar 5) (fCons (fVar 7) (fCons (fVar 6) fNil))))))))))
def F__law_due : FnS := runF 2 9 fb__law_due
abbrev X__law_due (P : Program) (w : World) (K : PySem.W.Frag) (mg : Str → Option Value) (base : Heap) (f : Addr) (cdv : Value) (A : Around) (outer : List Env) (s : Shared) (H : Hp) (E : XK) : Cx := cxOf (L2.CX P w) P w K mg base ["_law_section_here", "_law_leg", "_law_least", "_law_most", "_law_rows", "_law_length", "_law_up", "_law_down", "_law_row"] "_law_due" (defScope s__law_due) f cdv A outer s H E
section
variable {P : Program} {w : World} {K : PySem.W.Frag} {mg : Str → Option Value} {base : Heap}
theorem fg__law_due {f : Addr} {fd : FuncData} (T : Fun K "_law_due" "_law_due" s__law_due f fd) (z_max : mg "max" = none) (z_min : mg "min" = none) (z_len : mg "len" = none) (z_sum : mg "sum" = none) : FG P w K mg base 1 f fd ["_law_section_here", "_law_leg"] (spF K 2 F__law_due) := by
  have sc := sc__law_due
  exact fg_body 2 9 T sc rfl rfl fun cdv A outer s H E room gd => ⟨_,
    (db_cons (ds_par2 (i := 2) (j := 3) rfl sc.nd (da_cons (de_min2 rfl z_min (da_cons (de_ix (unit1_of room) (de_var 1) de_int) (da_cons (de_ix (unit1_of room) (de_var 1) de_int) da_nil))) (da_cons (de_max2 rfl z_max (da_cons (de_ix (unit1_of room) (de_var 1) de_int) (da_cons (de_ix (unit1_of room) (de_var 1) de_int) da_nil))) da_nil)))
    (db_cons (ds_if (dt_gt (de_var 3) (de_len z_len (da_cons (de_ix (unit1_of room) (de_var 0) de_int) da_nil))) (db_one (ds_ret de_non)) db_nil)
    (db_cons (ds_set sc.nd (de_sl (de_ix (unit1_of room) (de_var 0) de_int) (.som (de_var 2)) (.som (de_var 3))))
    (db_cons (ds_par3 (i := 5) (j := 6) (l := 7) rfl sc.nd (da_cons (de_sum rfl z_sum (da_cons (de_comp rfl sc.nd (di_any (de_var 4)) (blkOk_by (own := [("_law_row", 8)]) (by rfl)) (fun _ _ _ _ _ => (dg_name sc.nd)) (fun _ _ _ _ _ => ⟨_, dts_nil⟩) (fun _ _ _ _ _ => ⟨_, (de_ix (unit1_of room) (de_var 8) de_int)⟩)) da_nil)) (da_cons (de_sum rfl z_sum (da_cons (de_comp rfl sc.nd (di_any (de_var 4)) (blkOk_by (own := [("_law_row", 8)]) (by rfl)) (fun _ _ _ _ _ => (dg_name sc.nd)) (fun _ _ _ _ _ => ⟨_, dts_nil⟩) (fun _ _ _ _ _ => ⟨_, (de_ix (unit1_of room) (de_var 8) de_int)⟩)) da_nil)) (da_cons (de_sum rfl z_sum (da_cons (de_comp rfl sc.nd (di_any (de_var 4)) (blkOk_by (own := [("_law_row", 8)]) (by rfl)) (fun _ _ _ _ _ => (dg_name sc.nd)) (fun _ _ _ _ _ => ⟨_, dts_nil⟩) (fun _ _ _ _ _ => ⟨_, (de_ix (unit1_of room) (de_var 8) de_int)⟩)) da_nil)) da_nil))))
    (db_one (ds_ret (de_ifE (dt_eq (units_of room) (de_var 2) (de_ix (unit1_of room) (de_var 1) de_int)) (de_tup (da_cons (de_var 5) (da_cons (de_var 6) (da_cons (de_var 7) da_nil)))) (de_tup (da_cons (de_var 5) (da_cons (de_var 7) (da_cons (de_var 6) da_nil)))))))))))⟩
theorem df__law_due {f : Addr} {fd : FuncData} (T : Fun K "_law_due" "_law_due" s__law_due f fd) (hm : mg "_law_due" = some (.ref f)) (z_max : mg "max" = none) (z_min : mg "min" = none) (z_len : mg "len" = none) (z_sum : mg "sum" = none) : Df P w K mg base 1 "_law_due" 2 F__law_due [] [] :=
  df_of (fg__law_due T z_max z_min z_len z_sum) hm T.kp (T.binds (ps := ["_law_section_here", "_law_leg"]) fun _ _ _ _ _ _ us hl => match us, hl with | [_, _], _ => rfl)
end
/-! ### _law_in_parts -/
abbrev s__law_in_parts : Stmt := top 12
theorem sc__law_in_parts : FnScope ["_law_section_here", "_law_leg", "_law_mark", "_law_parts", "_law_k"] ["_law_section_here", "_law_leg"] (defScope s__law_in_parts) := ⟨rfl, rfl, rfl, by decide +kernel, rfl, by decide +kernel, by decide +kernel⟩
def fb__law_in_parts : FS := (fSeq (fFor (.nm 2) (fRange range2 (fCons (fBin gAdd (fB (gD min2D) (fCons (fBin gIx (fVar 1) (fC (.int 1))) (fCons (fBin gIx (fVar 1) (fC (.int 2))) fNil))) (fC (.int 1))) (fCons (fB (gD max2D) (fCons (fBin gIx (fVar 1) (fC (.int 1))) (fCons (fBin gIx (fVar 1) (fC (.int 2))) fNil))) fNil))) (fSeq (fSet 3 (fLst (fCons (fGo F_measure [] (fCons (fVar 0) (fCons (fTup (fCons (fBin gIx (fVar 1) (fC (.int 0))) (fCons (fBin gIx (fVar 1) (fC (.int 1))) (fCons (fVar 2) fNil)))) fNil))) (fCons (fGo F_measure [] (fCons (fVar 0) (fCons (fTup (fCons (fBin gIx (fVar 1) (fC (.int 0))) (fCons (fVar 2) (fCons (fBin gIx (fVar 1) (fC (.int 2))) fNil)))) fNil))) fNil))))
    (fIf (fTest (fBin (g2 dNe) (fB gTupOf (fCons (fComp (.nm 4) (fRange range1 (fCons (fC (.int 3)) fNil)) fYes (fBin gAdd (fBin gIx (fBin gIx (fVar 3) (fC (.int 0))) (fVar 4)) (fBin gIx (fBin gIx (fVar 3) (fC (.int 1))) (fVar 4))) [4]) fNil)) (fGo F_measure [] (fCons (fVar 0) (fCons (fVar 1) fNil))))) (fRet (fC (.bl false))) fNext)))
    (fRet (fC (.bl true))))
def F__law_in_parts : FnS := runF 2 5 fb__law_in_parts
abbrev X__law_in_parts (P : Program) (w : World) (K : PySem.W.Frag) (mg : Str → Option Value) (base : Heap) (f : Addr) (cdv : Value) (A : Around) (outer : List Env) (s : Shared) (H : Hp) (E : XK) : Cx := cxOf (L2.CX P w) P w K mg base ["_law_section_here", "_law_leg", "_law_mark", "_law_parts", "_law_k"] "_law_in_parts" (defScope s__law_in_parts) f cdv A outer s H E
section
variable {P : Program} {w : World} {K : PySem.W.Frag} {mg : Str → Option Value} {base : Heap}
theorem fg__law_in_parts {f : Addr} {fd : FuncData} (T : Fun K "_law_in_parts" "_law_in_parts" s__law_in_parts f fd) (D_measure : Df P w K mg base 2 "measure" 2 F_measure [] []) (z_range : mg "range" = none) (z_max : mg "max" = none) (z_min : mg "min" = none) (z_tuple : mg "tuple" = none) : FG P w K mg base 3 f fd ["_law_section_here", "_law_leg"] (spF K 2 F__law_in_parts) := by
  have sc := sc__law_in_parts
  exact fg_body 2 5 T sc rfl rfl fun cdv A outer s H E room gd => ⟨_,
    (db_cons (ds_for rfl (di_range2 z_range (da_cons (de_add (de_min2 rfl z_min (da_cons (de_ix (unit1_of room) (de_var 1) de_int) (da_cons (de_ix (unit1_of room) (de_var 1) de_int) da_nil))) de_int) (da_cons (de_max2 rfl z_max (da_cons (de_ix (unit1_of room) (de_var 1) de_int) (da_cons (de_ix (unit1_of room) (de_var 1) de_int) da_nil))) da_nil))) (dg_name sc.nd) (db_cons (ds_set sc.nd (de_lst (da_cons (de_call D_measure room gd (da_cons (de_var 0) (da_cons (de_tup (da_cons (de_ix (unit1_of room) (de_var 1) de_int) (da_cons (de_ix (unit1_of room) (de_var 1) de_int) (da_cons (de_var 2) da_nil)))) da_nil))) (da_cons (de_call D_measure room gd (da_cons (de_var 0) (da_cons (de_tup (da_cons (de_ix (unit1_of room) (de_var 1) de_int) (da_cons (de_var 2) (da_cons (de_ix (unit1_of room) (de_var 1) de_int) da_nil)))) da_nil))) da_nil))))
    (db_one (ds_if (dt_ne (units_of room) (de_tuple z_tuple (da_cons (de_comp rfl sc.nd (di_range1 z_range (da_cons de_int da_nil)) (blkOk_by (own := [("_law_k", 4)]) (by rfl)) (fun _ _ _ _ _ => (dg_name sc.nd)) (fun _ _ _ _ _ => ⟨_, dts_nil⟩) (fun _ _ _ _ _ => ⟨_, (de_add (de_ix (unit1_of room) (de_ix (unit1_of room) (de_var 3) de_int) (de_var 4)) (de_ix (unit1_of room) (de_ix (unit1_of room) (de_var 3) de_int) (de_var 4)))⟩)) da_nil)) (de_call D_measure room gd (da_cons (de_var 0) (da_cons (de_var 1) da_nil)))) (db_one (ds_ret de_bl)) db_nil))))
    (db_one (ds_ret de_bl)))⟩
theorem df__law_in_parts {f : Addr} {fd : FuncData} (T : Fun K "_law_in_parts" "_law_in_parts" s__law_in_parts f fd) (hm : mg "_law_in_parts" = some (.ref f)) (D_measure : Df P w K mg base 2 "measure" 2 F_measure [] []) (z_range : mg "range" = none) (z_max : mg "max" = none) (z_min : mg "min" = none) (z_tuple : mg "tuple" = none) : Df P w K mg base 3 "_law_in_parts" 2 F__law_in_parts [] [] :=
  df_of (fg__law_in_parts T D_measure z_range z_max z_min z_tuple) hm T.kp (T.binds (ps := ["_law_section_here", "_law_leg"]) fun _ _ _ _ _ _ us hl => match us, hl with | [_, _], _ => rfl)
end
/-! ### _law_leg_right -/
abbrev s__law_leg_right : Stmt := top 13
theorem sc__law_leg_right : FnScope ["_law_section_here", "_law_leg", "_law_told"] ["_law_section_here", "_law_leg"] (defScope s__law_leg_right) := ⟨rfl, rfl, rfl, by decide +kernel, rfl, by decide +kernel, by decide +kernel⟩
def fb__law_leg_right : FS := (fSeq (fSet 2 (fGo F_steps_of [] (fCons (fVar 1) fNil)))
    (fSeq (fIf (fOr (fTest (fBin (g2 dNe) (fB (gD reprD) (fCons (fVar 2) fNil)) (fB (gD reprD) (fCons (fGo F__law_steps [] (fCons (fVar 1) fNil)) fNil)))) (fTest (fBin (g2 dNe) (fB (gD reprD) (fCons (fGo F_measure [] (fCons (fVar 0) (fCons (fVar 1) fNil))) fNil)) (fB (gD reprD) (fCons (fGo F__law_due [] (fCons (fVar 0) (fCons (fVar 1) fNil))) fNil))))) (fRet (fC (.bl false))) fNext)
    (fSeq (fAppend (fVar 2) (fTup (fCons (fBin gIx (fBin gIx (fVar 2) (fC (.int 0))) (fC (.int 0))) (fCons (fC .non) fNil))))
    (fSeq (fStore (fVar 2) (fC (.int 0)) (fTup (fCons (fC (.int 9)) (fCons (fC .non) fNil))))
    (fRet (fBin (g2 dEq) (fB (gD reprD) (fCons (fGo F_steps_of [] (fCons (fVar 1) fNil)) fNil)) (fB (gD reprD) (fCons (fGo F__law_steps [] (fCons (fVar 1) fNil)) fNil))))))))
def F__law_leg_right : FnS := runF 2 3 fb__law_leg_right
abbrev X__law_leg_right (P : Program) (w : World) (K : PySem.W.Frag) (mg : Str → Option Value) (base : Heap) (f : Addr) (cdv : Value) (A : Around) (outer : List Env) (s : Shared) (H : Hp) (E : XK) : Cx := cxOf (L2.CX P w) P w K mg base ["_law_section_here", "_law_leg", "_law_told"] "_law_leg_right" (defScope s__law_leg_right) f cdv A outer s H E
section
variable {P : Program} {w : World} {K : PySem.W.Frag} {mg : Str → Option Value} {base : Heap}
theorem fg__law_leg_right {f : Addr} {fd : FuncData} (T : Fun K "_law_leg_right" "_law_leg_right" s__law_leg_right f fd) (D_steps_of : Df P w K mg base 1 "steps_of" 1 F_steps_of [] []) (D__law_steps : Df P w K mg base 1 "_law_steps" 1 F__law_steps [] []) (D_measure : Df P w K mg base 2 "measure" 2 F_measure [] []) (D__law_due : Df P w K mg base 1 "_law_due" 2 F__law_due [] []) (z_repr : mg "repr" = none) : FG P w K mg base 3 f fd ["_law_section_here", "_law_leg"] (spF K 2 F__law_leg_right) := by
  have sc := sc__law_leg_right
  exact fg_body 2 3 T sc rfl rfl fun cdv A outer s H E room gd => ⟨_,
    (db_cons (ds_set sc.nd (de_call D_steps_of room gd (da_cons (de_var 1) da_nil)))
    (db_cons (ds_if (DW.dt (dw_or (dt_ne (units_of room) (de_repr gd (units_of room) z_repr (da_cons (de_var 2) da_nil)) (de_repr gd (units_of room) z_repr (da_cons (de_call D__law_steps room gd (da_cons (de_var 1) da_nil)) da_nil))) (dw_or1 (dt_ne (units_of room) (de_repr gd (units_of room) z_repr (da_cons (de_call D_measure room gd (da_cons (de_var 0) (da_cons (de_var 1) da_nil))) da_nil)) (de_repr gd (units_of room) z_repr (da_cons (de_call D__law_due room gd (da_cons (de_var 0) (da_cons (de_var 1) da_nil))) da_nil)))))) (db_one (ds_ret de_bl)) db_nil)
    (db_cons (ds_append (de_var 2) (de_tup (da_cons (de_ix (unit1_of room) (de_ix (unit1_of room) (de_var 2) de_int) de_int) (da_cons de_non da_nil))))
    (db_cons (ds_store (unit1_of room) (de_tup (da_cons de_int (da_cons de_non da_nil))) (de_var 2) de_int)
    (db_one (ds_ret (de_eq (units_of room) (de_repr gd (units_of room) z_repr (da_cons (de_call D_steps_of room gd (da_cons (de_var 1) da_nil)) da_nil)) (de_repr gd (units_of room) z_repr (da_cons (de_call D__law_steps room gd (da_cons (de_var 1) da_nil)) da_nil)))))))))⟩
theorem df__law_leg_right {f : Addr} {fd : FuncData} (T : Fun K "_law_leg_right" "_law_leg_right" s__law_leg_right f fd) (hm : mg "_law_leg_right" = some (.ref f)) (D_steps_of : Df P w K mg base 1 "steps_of" 1 F_steps_of [] []) (D__law_steps : Df P w K mg base 1 "_law_steps" 1 F__law_steps [] []) (D_measure : Df P w K mg base 2 "measure" 2 F_measure [] []) (D__law_due : Df P w K mg base 1 "_law_due" 2 F__law_due [] []) (z_repr : mg "repr" = none) : Df P w K mg base 3 "_law_leg_right" 2 F__law_leg_right [] [] :=
  df_of (fg__law_leg_right T D_steps_of D__law_steps D_measure D__law_due z_repr) hm T.kp (T.binds (ps := ["_law_section_here", "_law_leg"]) fun _ _ _ _ _ _ us hl => match us, hl with | [_, _], _ => rfl)
end
/-! ### law -/
abbrev s_law : Stmt := top 14
theorem sc_law : FnScope ["_law_script", "_law_draw", "_law_turn", "_law_name", "_law_pool", "_law_sections", "_law_before", "_law_leg", "_law_section_here", "_law_k"] ["_law_script"] (defScope s_law) := ⟨rfl, rfl, rfl, by decide +kernel, rfl, by decide +kernel, by decide +kernel⟩
def fb_law : FS := (fSeq (fSetC 1 (fGo F__law_begin [] (fCons (fVar 0) fNil)))
    (fSeq (fFor (.nm 2) (fRange range1 (fCons (fBin gAdd (fC (.int 1)) (fGo F__law_next [] (fCons (fVar 1) (fCons (fC (.int 2)) fNil)))) fNil)) (fSeq (fPar [3, 4] (fCons (fBin gIx (fGo F__law_words [] (fCons (fVar 1) (fCons (fC (.int 1)) fNil))) (fC (.int 0))) (fCons (fFrz (fGo F__law_words [] (fCons (fVar 1) (fCons (fBin gAdd (fC (.int 2)) (fGo F__law_next [] (fCons (fVar 1) (fCons (fC (.int 8)) fNil)))) fNil)))) fNil)))
    (fSeq (fSet 5 (fFrz (fComp (.nm 9) (fRange range1 (fCons (fC (.int 2)) fNil)) fYes (fGo F__law_section [] (fCons (fVar 1) (fCons (fVar 3) (fCons (fVar 4) fNil)))) [9])))
    (fSeq (fSet 6 (fB (gD reprD) (fCons (fVar 5) fNil)))
    (fSeq (fFor (.nm 7) (fItems (fComp (.nm 9) (fRange range1 (fCons (fC (.int 64)) fNil)) (fTest (fBin (g2 dNe) (fBin (g2 (dI iDiv)) (fVar 9) (fC (.int 8))) (fBin (g2 (dI iMod)) (fVar 9) (fC (.int 8))))) (fTup (fCons (fVar 3) (fCons (fBin (g2 (dI iDiv)) (fVar 9) (fC (.int 8))) (fCons (fBin (g2 (dI iMod)) (fVar 9) (fC (.int 8))) fNil)))) [9])) (fFor (.nm 8) (fItems (fVar 5)) (fIf (fNot (fTru (fGo F__law_leg_right [] (fCons (fVar 8) (fCons (fVar 7) fNil))))) (fRet (fC (.bl false))) fNext)))
    (fSeq (fSet 7 (fTup (fCons (fVar 3) (fCons (fBin (g2 (dI iMul)) (fGo F__law_next [] (fCons (fVar 1) (fCons (fC (.int 2)) fNil))) (fBin (g2 (dI iSub)) (fB (gD lenD) (fCons (fBin gIx (fBin gIx (fVar 5) (fC (.int 0))) (fC (.int 1))) fNil)) (fC (.int 1)))) (fCons (fC (.int 0)) fNil)))))
    (fSeq (fSet 7 (fIfE (fTest (fBin gGt (fBin gIx (fVar 7) (fC (.int 1))) (fC (.int 0)))) (fVar 7) (fTup (fCons (fVar 3) (fCons (fC (.int 0)) (fCons (fBin (g2 (dI iSub)) (fB (gD lenD) (fCons (fBin gIx (fBin gIx (fVar 5) (fC (.int 0))) (fC (.int 1))) fNil)) (fC (.int 1))) fNil))))))
    (fIf (fOr (fNot (fTru (fGo F__law_in_parts [] (fCons (fBin gIx (fVar 5) (fC (.int 0))) (fCons (fVar 7) fNil))))) (fTest (fBin (g2 dNe) (fB (gD reprD) (fCons (fVar 5) fNil)) (fVar 6)))) (fRet (fC (.bl false))) fNext))))))))
    (fRet (fC (.bl true)))))
def F_law : FnS := runF 1 10 fb_law
abbrev X_law (P : Program) (w : World) (K : PySem.W.Frag) (mg : Str → Option Value) (base : Heap) (f : Addr) (cdv : Value) (A : Around) (outer : List Env) (s : Shared) (H : Hp) (E : XK) : Cx := cxOf (L2.CX P w) P w K mg base ["_law_script", "_law_draw", "_law_turn", "_law_name", "_law_pool", "_law_sections", "_law_before", "_law_leg", "_law_section_here", "_law_k"] "law" (defScope s_law) f cdv A outer s H E
section
variable {P : Program} {w : World} {K : PySem.W.Frag} {mg : Str → Option Value} {base : Heap}
theorem fg_law {f : Addr} {fd : FuncData} (T : Fun K "law" "law" s_law f fd) (D__law_begin : Df P w K mg base 1 "_law_begin" 1 F__law_begin [] []) (D__law_next : Df P w K mg base 2 "_law_next" 2 F__law_next [] []) (D__law_words : Df P w K mg base 3 "_law_words" 2 F__law_words [] []) (D__law_section : Df P w K mg base 4 "_law_section" 3 F__law_section [] []) (D__law_leg_right : Df P w K mg base 3 "_law_leg_right" 2 F__law_leg_right [] []) (D__law_in_parts : Df P w K mg base 3 "_law_in_parts" 2 F__law_in_parts [] []) (z_range : mg "range" = none) (z_repr : mg "repr" = none) (z_len : mg "len" = none) : FG P w K mg base 5 f fd ["_law_script"] (spF K 1 F_law) := by
  have sc := sc_law
  exact fg_body 1 10 T sc rfl rfl fun cdv A outer s H E room gd => ⟨_,
    (db_cons (ds_setC sc.nd (de_call D__law_begin room gd (da_cons (de_var 0) da_nil)))
    (db_cons (ds_for rfl (di_range1 z_range (da_cons (de_add de_int (de_call D__law_next room gd (da_cons (de_var 1) (da_cons de_int da_nil)))) da_nil)) (dg_name sc.nd) (db_cons (ds_parT rfl (da_cons (de_ix (unit1_of room) (de_call D__law_words room gd (da_cons (de_var 1) (da_cons de_int da_nil))) de_int) (da_cons (de_frz (de_call D__law_words room gd (da_cons (de_var 1) (da_cons (de_add de_int (de_call D__law_next room gd (da_cons (de_var 1) (da_cons de_int da_nil)))) da_nil)))) da_nil)) (dn_cons (i := 3) sc.nd (dn_cons (i := 4) sc.nd .nil)))
    (db_cons (ds_setCompF rfl sc.nd (di_range1 z_range (da_cons de_int da_nil)) (blkOk_by (own := [("_law_k", 9)]) (by rfl)) (fun _ _ _ _ _ => (dg_name sc.nd)) (fun _ _ _ _ _ => ⟨_, dts_nil⟩) (fun _ _ _ _ _ => ⟨_, (de_call D__law_section room gd (da_cons (de_var 1) (da_cons (de_var 3) (da_cons (de_var 4) da_nil))))⟩))
    (db_cons (ds_set sc.nd (de_repr gd (units_of room) z_repr (da_cons (de_var 5) da_nil)))
    (db_cons (ds_for rfl (di_any (de_comp rfl sc.nd (di_range1 z_range (da_cons de_int da_nil)) (blkOk_by (own := [("_law_k", 9)]) (by rfl)) (fun _ _ _ _ _ => (dg_name sc.nd)) (fun _ _ _ _ _ => ⟨_, (dts_one (dt_ne (units_of room) (de_fdiv (de_var 9) de_int) (de_mod (de_var 9) de_int)))⟩) (fun _ _ _ _ _ => ⟨_, (de_tup (da_cons (de_var 3) (da_cons (de_fdiv (de_var 9) de_int) (da_cons (de_mod (de_var 9) de_int) da_nil))))⟩))) (dg_name sc.nd) (db_one (ds_for rfl (di_any (de_var 5)) (dg_name sc.nd) (db_one (ds_if (dt_not (dt_truth (de_call D__law_leg_right room gd (da_cons (de_var 8) (da_cons (de_var 7) da_nil))))) (db_one (ds_ret de_bl)) db_nil)))))
    (db_cons (ds_set sc.nd (de_tup (da_cons (de_var 3) (da_cons (de_mulI (de_call D__law_next room gd (da_cons (de_var 1) (da_cons de_int da_nil))) (de_sub (de_len z_len (da_cons (de_ix (unit1_of room) (de_ix (unit1_of room) (de_var 5) de_int) de_int) da_nil)) de_int)) (da_cons de_int da_nil)))))
    (db_cons (ds_set sc.nd (de_ifE (dt_gt (de_ix (unit1_of room) (de_var 7) de_int) de_int) (de_var 7) (de_tup (da_cons (de_var 3) (da_cons de_int (da_cons (de_sub (de_len z_len (da_cons (de_ix (unit1_of room) (de_ix (unit1_of room) (de_var 5) de_int) de_int) da_nil)) de_int) da_nil))))))
    (db_one (ds_if (DW.dt (dw_or (dt_not (dt_truth (de_call D__law_in_parts room gd (da_cons (de_ix (unit1_of room) (de_var 5) de_int) (da_cons (de_var 7) da_nil))))) (dw_or1 (dt_ne (units_of room) (de_repr gd (units_of room) z_repr (da_cons (de_var 5) da_nil)) (de_var 6))))) (db_one (ds_ret de_bl)) db_nil)))))))))
    (db_one (ds_ret de_bl))))⟩
theorem df_law {f : Addr} {fd : FuncData} (T : Fun K "law" "law" s_law f fd) (hm : mg "law" = some (.ref f)) (D__law_begin : Df P w K mg base 1 "_law_begin" 1 F__law_begin [] []) (D__law_next : Df P w K mg base 2 "_law_next" 2 F__law_next [] []) (D__law_words : Df P w K mg base 3 "_law_words" 2 F__law_words [] []) (D__law_section : Df P w K mg base 4 "_law_section" 3 F__law_section [] []) (D__law_leg_right : Df P w K mg base 3 "_law_leg_right" 2 F__law_leg_right [] []) (D__law_in_parts : Df P w K mg base 3 "_law_in_parts" 2 F__law_in_parts [] []) (z_range : mg "range" = none) (z_repr : mg "repr" = none) (z_len : mg "len" = none) : Df P w K mg base 5 "law" 1 F_law [] [] :=
  df_of (fg_law T D__law_begin D__law_next D__law_words D__law_section D__law_leg_right D__law_in_parts z_range z_repr z_len) hm T.kp (T.binds (ps := ["_law_script"]) fun _ _ _ _ _ _ us hl => match us, hl with | [_], _ => rfl)
end
theorem all_mk {l : PySem.W.OpenLaw} {w : World} {K : PySem.W.Frag} {h : Heap} {mg : Str → Option Value} {fa f0 f1 f2 f3 f4 f5 f6 f7 f8 f9 f10 f11 f12 : Addr} (KX : K.In h) (G : h.Ns mainGlobals mg) (hfa : mg "law" = some (.ref fa))
    {od0 an0 od1 an1 od2 an2 od3 an3 od4 an4 od5 an5 od6 an6 od7 an7 od8 an8 od9 an9 od10 an10 od11 an11 od12 an12 : Option Addr} {sl0 sl1 sl2 sl3 sl4 sl5 sl6 sl7 sl8 sl9 sl10 sl11 sl12 : Array (Option Value)} {oc0 kV0 dc0 pm0 cd0 ct0 oc1 kV1 dc1 pm1 cd1 ct1 oc2 kV2 dc2 pm2 cd2 ct2 oc3 kV3 dc3 pm3 cd3 ct3 oc4 kV4 dc4 pm4 cd4 ct4 oc5 kV5 dc5 pm5 cd5 ct5 oc6 kV6 dc6 pm6 cd6 ct6 oc7 kV7 dc7 pm7 cd7 ct7 oc8 kV8 dc8 pm8 cd8 ct8 oc9 kV9 dc9 pm9 cd9 ct9 oc10 kV10 dc10 pm10 cd10 ct10 oc11 kV11 dc11 pm11 cd11 ct11 oc12 kV12 dc12 pm12 cd12 ct12 : Value}
    (a0 : PySem.W.nsIn K mainGlobals "steps_of" = some (some (.ref f0))) (l0 : K.lookup f0 = some ⟨oc0, od0, .func (PySem.W.fnOf "steps_of" "steps_of" (defArgs s_steps_of) (defBody s_steps_of) (defScope s_steps_of) .none kV0 dc0 pm0 an0 cd0 ct0), sl0⟩) (c0 : PySem.W.codeIn K cd0 "steps_of" = true) (k0 : PySem.W.keepIn K (.ref f0) = true)
    (a1 : PySem.W.nsIn K mainGlobals "measure" = some (some (.ref f1))) (l1 : K.lookup f1 = some ⟨oc1, od1, .func (PySem.W.fnOf "measure" "measure" (defArgs s_measure) (defBody s_measure) (defScope s_measure) .none kV1 dc1 pm1 an1 cd1 ct1), sl1⟩) (c1 : PySem.W.codeIn K cd1 "measure" = true) (k1 : PySem.W.keepIn K (.ref f1) = true)
    (a2 : PySem.W.nsIn K mainGlobals "_law_begin" = some (some (.ref f2))) (l2 : K.lookup f2 = some ⟨oc2, od2, .func (PySem.W.fnOf "_law_begin" "_law_begin" (defArgs s__law_begin) (defBody s__law_begin) (defScope s__law_begin) .none kV2 dc2 pm2 an2 cd2 ct2), sl2⟩) (c2 : PySem.W.codeIn K cd2 "_law_begin" = true) (k2 : PySem.W.keepIn K (.ref f2) = true)
    (a3 : PySem.W.nsIn K mainGlobals "_law_mixed" = some (some (.ref f3))) (l3 : K.lookup f3 = some ⟨oc3, od3, .func (PySem.W.fnOf "_law_mixed" "_law_mixed" (defArgs s__law_mixed) (defBody s__law_mixed) (defScope s__law_mixed) .none kV3 dc3 pm3 an3 cd3 ct3), sl3⟩) (c3 : PySem.W.codeIn K cd3 "_law_mixed" = true) (k3 : PySem.W.keepIn K (.ref f3) = true)
    (a4 : PySem.W.nsIn K mainGlobals "_law_next" = some (some (.ref f4))) (l4 : K.lookup f4 = some ⟨oc4, od4, .func (PySem.W.fnOf "_law_next" "_law_next" (defArgs s__law_next) (defBody s__law_next) (defScope s__law_next) .none kV4 dc4 pm4 an4 cd4 ct4), sl4⟩) (c4 : PySem.W.codeIn K cd4 "_law_next" = true) (k4 : PySem.W.keepIn K (.ref f4) = true)
    (a5 : PySem.W.nsIn K mainGlobals "_law_words" = some (some (.ref f5))) (l5 : K.lookup f5 = some ⟨oc5, od5, .func (PySem.W.fnOf "_law_words" "_law_words" (defArgs s__law_words) (defBody s__law_words) (defScope s__law_words) .none kV5 dc5 pm5 an5 cd5 ct5), sl5⟩) (c5 : PySem.W.codeIn K cd5 "_law_words" = true) (k5 : PySem.W.keepIn K (.ref f5) = true)
    (a6 : PySem.W.nsIn K mainGlobals "_law_stretch" = some (some (.ref f6))) (l6 : K.lookup f6 = some ⟨oc6, od6, .func (PySem.W.fnOf "_law_stretch" "_law_stretch" (defArgs s__law_stretch) (defBody s__law_stretch) (defScope s__law_stretch) .none kV6 dc6 pm6 an6 cd6 ct6), sl6⟩) (c6 : PySem.W.codeIn K cd6 "_law_stretch" = true) (k6 : PySem.W.keepIn K (.ref f6) = true)
    (a7 : PySem.W.nsIn K mainGlobals "_law_section" = some (some (.ref f7))) (l7 : K.lookup f7 = some ⟨oc7, od7, .func (PySem.W.fnOf "_law_section" "_law_section" (defArgs s__law_section) (defBody s__law_section) (defScope s__law_section) .none kV7 dc7 pm7 an7 cd7 ct7), sl7⟩) (c7 : PySem.W.codeIn K cd7 "_law_section" = true) (k7 : PySem.W.keepIn K (.ref f7) = true)
    (a8 : PySem.W.nsIn K mainGlobals "_law_steps" = some (some (.ref f8))) (l8 : K.lookup f8 = some ⟨oc8, od8, .func (PySem.W.fnOf "_law_steps" "_law_steps" (defArgs s__law_steps) (defBody s__law_steps) (defScope s__law_steps) .none kV8 dc8 pm8 an8 cd8 ct8), sl8⟩) (c8 : PySem.W.codeIn K cd8 "_law_steps" = true) (k8 : PySem.W.keepIn K (.ref f8) = true)
    (a9 : PySem.W.nsIn K mainGlobals "_law_due" = some (some (.ref f9))) (l9 : K.lookup f9 = some ⟨oc9, od9, .func (PySem.W.fnOf "_law_due" "_law_due" (defArgs s__law_due) (defBody s__law_due) (defScope s__law_due) .none kV9 dc9 pm9 an9 cd9 ct9), sl9⟩) (c9 : PySem.W.codeIn K cd9 "_law_due" = true) (k9 : PySem.W.keepIn K (.ref f9) = true)
    (a10 : PySem.W.nsIn K mainGlobals "_law_in_parts" = some (some (.ref f10))) (l10 : K.lookup f10 = some ⟨oc10, od10, .func (PySem.W.fnOf "_law_in_parts" "_law_in_parts" (defArgs s__law_in_parts) (defBody s__law_in_parts) (defScope s__law_in_parts) .none kV10 dc10 pm10 an10 cd10 ct10), sl10⟩) (c10 : PySem.W.codeIn K cd10 "_law_in_parts" = true) (k10 : PySem.W.keepIn K (.ref f10) = true)
    (a11 : PySem.W.nsIn K mainGlobals "_law_leg_right" = some (some (.ref f11))) (l11 : K.lookup f11 = some ⟨oc11, od11, .func (PySem.W.fnOf "_law_leg_right" "_law_leg_right" (defArgs s__law_leg_right) (defBody s__law_leg_right) (defScope s__law_leg_right) .none kV11 dc11 pm11 an11 cd11 ct11), sl11⟩) (c11 : PySem.W.codeIn K cd11 "_law_leg_right" = true) (k11 : PySem.W.keepIn K (.ref f11) = true)
    (a12 : PySem.W.nsIn K mainGlobals "law" = some (some (.ref f12))) (l12 : K.lookup f12 = some ⟨oc12, od12, .func (PySem.W.fnOf "law" "law" (defArgs s_law) (defBody s_law) (defScope s_law) .none kV12 dc12 pm12 an12 cd12 ct12), sl12⟩) (c12 : PySem.W.codeIn K cd12 "law" = true) (k12 : PySem.W.keepIn K (.ref f12) = true)
    (b_range : PySem.W.nsIn K mainGlobals "range" = some none)
    (b_max : PySem.W.nsIn K mainGlobals "max" = some none)
    (b_len : PySem.W.nsIn K mainGlobals "len" = some none)
    (b_tuple : PySem.W.nsIn K mainGlobals "tuple" = some none)
    (b_min : PySem.W.nsIn K mainGlobals "min" = some none)
    (b_sum : PySem.W.nsIn K mainGlobals "sum" = some none)
    (b_repr : PySem.W.nsIn K mainGlobals "repr" = some none)
    : ∃ fd : FuncData, (∀ (s : Shared) (v : Value), BindsTo s fd ⟨[v], []⟩ [("_law_script", v)]) ∧ ∀ base : Heap, K.In base → base.Ns mainGlobals mg → FG l.prog w K mg base 5 fa fd ["_law_script"] (spF K 1 F_law) := by
  have e := hfa.symm.trans (PySem.W.mg_of KX G a12)
  cases e
  have z_range := PySem.W.mg_none_of KX G b_range
  have z_max := PySem.W.mg_none_of KX G b_max
  have z_len := PySem.W.mg_none_of KX G b_len
  have z_tuple := PySem.W.mg_none_of KX G b_tuple
  have z_min := PySem.W.mg_none_of KX G b_min
  have z_sum := PySem.W.mg_none_of KX G b_sum
  have z_repr := PySem.W.mg_none_of KX G b_repr
  have T0 := fun_mk (st := s_steps_of) l0 c0 k0
  have T1 := fun_mk (st := s_measure) l1 c1 k1
  have T2 := fun_mk (st := s__law_begin) l2 c2 k2
  have T3 := fun_mk (st := s__law_mixed) l3 c3 k3
  have T4 := fun_mk (st := s__law_next) l4 c4 k4
  have T5 := fun_mk (st := s__law_words) l5 c5 k5
  have T6 := fun_mk (st := s__law_stretch) l6 c6 k6
  have T7 := fun_mk (st := s__law_section) l7 c7 k7
  have T8 := fun_mk (st := s__law_steps) l8 c8 k8
  have T9 := fun_mk (st := s__law_due) l9 c9 k9
  have T10 := fun_mk (st := s__law_in_parts) l10 c10 k10
  have T11 := fun_mk (st := s__law_leg_right) l11 c11 k11
  have T12 := fun_mk (st := s_law) l12 c12 k12
  refine ⟨PySem.W.fnOf "law" "law" (defArgs s_law) (defBody s_law) (defScope s_law) .none kV12 dc12 pm12 an12 cd12 ct12, fun s v => .of_eq rfl, fun base _ _ => ?_⟩
  have D_steps_of := df_steps_of (P := l.prog) (w := w) (base := base) T0 (PySem.W.mg_of KX G a0) z_range
  have D_measure := df_measure (P := l.prog) (w := w) (base := base) T1 (PySem.W.mg_of KX G a1) D_steps_of z_max z_len
  have D__law_begin := df__law_begin (P := l.prog) (w := w) (base := base) T2 (PySem.W.mg_of KX G a2)
  have D__law_mixed := df__law_mixed (P := l.prog) (w := w) (base := base) T3 (PySem.W.mg_of KX G a3)
  have D__law_next := df__law_next (P := l.prog) (w := w) (base := base) T4 (PySem.W.mg_of KX G a4) D__law_mixed z_len
  have D__law_words := df__law_words (P := l.prog) (w := w) (base := base) T5 (PySem.W.mg_of KX G a5) D__law_next z_len z_range
  have D__law_stretch := df__law_stretch (P := l.prog) (w := w) (base := base) T6 (PySem.W.mg_of KX G a6) D__law_next
  have D__law_section := df__law_section (P := l.prog) (w := w) (base := base) T7 (PySem.W.mg_of KX G a7) D__law_next D__law_stretch z_len z_range z_tuple
  have D__law_steps := df__law_steps (P := l.prog) (w := w) (base := base) T8 (PySem.W.mg_of KX G a8) z_max z_min z_range
  have D__law_due := df__law_due (P := l.prog) (w := w) (base := base) T9 (PySem.W.mg_of KX G a9) z_max z_min z_len z_sum
  have D__law_in_parts := df__law_in_parts (P := l.prog) (w := w) (base := base) T10 (PySem.W.mg_of KX G a10) D_measure z_range z_max z_min z_tuple
  have D__law_leg_right := df__law_leg_right (P := l.prog) (w := w) (base := base) T11 (PySem.W.mg_of KX G a11) D_steps_of D__law_steps D_measure D__law_due z_repr
  exact fg_law T12 D__law_begin D__law_next D__law_words D__law_section D__law_leg_right D__law_in_parts z_range z_repr z_len
end GK13

namespace GK13
open PySem PySem.Spec PyProof.Rows L2 L3
theorem mixed_ok {c k : Int} {μ : List SV} {Q X} (hk : 0 ≤ k ∧ k ≤ 2 ^ 50) (h : ∀ m : Int, 0 ≤ m → Q (.dat (.int m)) μ) : Wf F__law_mixed [.dat (.int c), .dat (.int k)] μ Q X := by
  unfold F__law_mixed fb__law_mixed
  simp [wf_run]
  refine ⟨.inr ⟨by omega, by omega⟩, ⟨by omega, by omega⟩, .inl ⟨by omega, by omega⟩, .inr ⟨by omega, by omega⟩, h _ ?_⟩
  omega
/-- a draw: its cells, its numbers below B -/
def Dr (B : Int) (x : SV) : Prop := ∃ (cs : List Int) (a l u : Int), x = .node (.dK drawKs) [.dat (.lst (cs.map D.int)), .dat (.int a), .dat (.int l), .dat (.int u)] ∧ 0 < cs.length ∧ cs.length ≤ 1000 ∧ 0 ≤ a ∧ a ≤ B ∧ 0 ≤ l ∧ 0 ≤ u ∧ u ≤ B
theorem next_ok {B m : Int} {x : SV} {Q X} (hx : Dr B x) (hB : B < 2 ^ 49) (hm : 0 < m ∧ m < 2 ^ 29) (h : ∀ (r : Int) (x' : SV), 0 ≤ r → r < m → Dr (B + 1) x' → Q (.dat (.int r)) [x']) : Wf F__law_next [.cell 0, .dat (.int m)] [x] Q X := by
  obtain ⟨cs, a, l, u, rfl, h1, h2, h3, h4, h5, h6, h7⟩ := hx
  unfold F__law_next fb__law_next
  simp [wf_run]
  have fin : ∀ z : Int, Wf F__law_mixed [.dat (.int z), .dat (.int (a + 1))] [.node (.dK drawKs) [.dat (.lst (cs.map D.int)), .dat (.int (a + 1)), .dat (.int l), .dat (.int (u + 1))]] (fun x μ' => ∃ m, 0 ≤ m ∧ x = .dat (.int m) ∧ μ' = [.node (.dK drawKs) [.dat (.lst (cs.map D.int)), .dat (.int (a + 1)), .dat (.int l), .dat (.int (u + 1))]]) X := fun z => mixed_ok ⟨by omega, by omega⟩ fun m hm => ⟨m, hm, rfl, rfl⟩
  have dr : ∀ a' l' u' : Int, 0 ≤ a' → a' ≤ B + 1 → 0 ≤ l' → 0 ≤ u' → u' ≤ B + 1 → Dr (B + 1) (.node (.dK drawKs) [.dat (.lst (cs.map D.int)), .dat (.int a'), .dat (.int l'), .dat (.int u')]) := fun a' l' u' e1 e2 e3 e4 e5 => ⟨cs, a', l', u', rfl, h1, h2, e1, e2, e3, e4, e5⟩
  have last : ∀ z : Int, (∀ (x : SV) (μ' : List SV), (∃ m, 0 ≤ m ∧ x = .dat (.int m) ∧ μ' = [.node (.dK drawKs) [.dat (.lst (cs.map D.int)), .dat (.int (a + 1)), .dat (.int l), .dat (.int (u + 1))]]) → True) := fun _ _ _ _ => trivial
  refine ⟨fun hl => ⟨hm.1, ⟨hm.1, by omega⟩, h _ _ (Int.emod_nonneg _ (by omega)) (Int.emod_lt_of_pos _ hm.1) (dr _ _ _ (by omega) (by omega) (Int.ediv_nonneg h5 (by omega)) h6 (by omega))⟩, fun hl => ⟨h1, ob_at (Int.emod_nonneg _ (by omega)) (Int.emod_lt_of_pos _ (by omega)) fun z hz => ?_⟩⟩
  simp
  refine ⟨fun hz1 => ⟨fun ha => ⟨⟨hm.1, by omega⟩, hm.1, h _ _ (Int.emod_nonneg _ (by omega)) (Int.emod_lt_of_pos _ hm.1) (dr _ _ _ (by omega) (by omega) (Int.ediv_nonneg (by omega) (by omega)) h6 (by omega))⟩, fun ha => ?_⟩, fun hz1 => ?_⟩
  all_goals
    refine wf_mono (fin z) (fun x μ' hx => ?_) (fun _ _ hx => hx)
    obtain ⟨m1, hm1, rfl, rfl⟩ := hx
    simp
    refine mixed_ok ⟨by omega, by omega⟩ fun m2 hm2 => ?_
    simp
    exact ⟨hm.1, h _ _ (Int.emod_nonneg _ (by omega)) (Int.emod_lt_of_pos _ hm.1) (dr _ _ _ (by omega) (by omega) h5 (by omega) (by omega))⟩
/-! ### steps_of, measure -/
/-- the numbers between, in the order walked -/
def stepsL (a b : Int) : List D := if a < b then (rangeL a (b - a).toNat 1).map fun d => .tup [d, .bl true] else (rangeL (a - 1) (a - 1 - (b - 1)).toNat (-1)).map fun d => .tup [d, .bl false]
theorem steps_ok {n : Str} {a b : Int} {μ : List SV} {Q X} (ha : 0 ≤ a ∧ a ≤ 100) (hb : 0 ≤ b ∧ b ≤ 100) (h : Q (.own ((stepsL a b).map SV.dat)) μ) : Wf F_steps_of [.dat (.tup [.str n, .int a, .int b])] μ Q X := by
  have sm : ∀ i : Int, -1 ≤ i → i ≤ 100 → small62 i := fun i h1 h2 => small62_of (by omega) (by omega)
  unfold F_steps_of fb_steps_of
  simp [wf_run, cut_tail]
  unfold stepsL at h
  refine ⟨fun hab => ⟨⟨sm _ (by omega) (by omega), sm _ (by omega) (by omega)⟩, ?_⟩, fun hab => ⟨⟨sm _ (by omega) (by omega), sm _ (by omega) (by omega)⟩, ?_⟩⟩
  · rw [if_pos hab] at h
    refine ct_map (fun d => .dat (.tup [d, .bl true])) (by simp; omega) (fun d hd => ?_) ?_
    · simp
    · simp at h ⊢; exact h
  · rw [if_neg (by omega)] at h
    refine ct_map (fun d => .dat (.tup [d, .bl false])) (by simp; omega) (fun d hd => ?_) ?_
    · simp
    · simp at h ⊢; exact h
/-- a stretch -/
def enc (t : Int × Int × Int) : D := .tup [.int t.1, .int t.2.1, .int t.2.2]
theorem stepsL_get {a b : Int} {i : Nat} {d : D} (h : (stepsL a b)[i]? = some d) : (a < b ∧ (i : Int) < b - a ∧ d = .tup [.int (a + i), .bl true]) ∨ (¬ a < b ∧ (i : Int) < a - b ∧ d = .tup [.int (a - 1 - i), .bl false]) := by
  unfold stepsL rangeL at h
  by_cases hab : a < b
  · rw [if_pos hab] at h
    simp only [List.getElem?_map, List.map_map] at h
    by_cases hi : i < (b - a).toNat
    · rw [List.getElem?_range hi] at h
      simp at h
      exact .inl ⟨hab, by omega, by rw [← h]⟩
    · rw [List.getElem?_eq_none (by simpa using hi)] at h; cases h
  · rw [if_neg hab] at h
    simp only [List.getElem?_map, List.map_map] at h
    by_cases hi : i < (a - 1 - (b - 1)).toNat
    · rw [List.getElem?_range hi] at h
      simp at h
      exact .inr ⟨hab, by omega, by rw [← h]; congr 4; try omega⟩
    · rw [List.getElem?_eq_none (by simpa using hi)] at h; cases h
theorem stepsL_len {a b : Int} : (stepsL a b).length = (if a < b then (b - a).toNat else (a - b).toNat) := by
  unfold stepsL
  split
  · simp
  · simp; omega
/-- what of the rows' one number is gone by, of the first i steps -/
def gone (R : List (Int × Int × Int)) (f : Int × Int × Int → Int) (a b : Int) (i : Nat) : Int := ((List.range i).map fun (j : Nat) => ((R[(if a < b then a + (j : Int) else a - 1 - (j : Int)).toNat]?).map f).getD 0).sum
theorem gone_succ {R : List (Int × Int × Int)} {f : Int × Int × Int → Int} {a b : Int} {i : Nat} : gone R f a b (i + 1) = gone R f a b i + ((R[(if a < b then a + i else a - 1 - i).toNat]?).map f).getD 0 := by
  unfold gone; rw [List.range_succ, List.map_append, List.sum_append]; simp
def len (t : Int × Int × Int) : Int := t.1
def upw (fw : Bool) (t : Int × Int × Int) : Int := if fw then t.2.1 else t.2.2
/-- what is measured -/
def measD (R : List (Int × Int × Int)) (a b : Int) : D := if max a b > R.length then .non else
  .tup [.int (gone R len a b (stepsL a b).length), .int (gone R (upw (decide (a < b))) a b (stepsL a b).length), .int (gone R (upw (!decide (a < b))) a b (stepsL a b).length)]
theorem measure_ok {n n' : Str} {ms : List D} {R : List (Int × Int × Int)} {a b : Int} {μ : List SV} {Q X} (hR : ms.length = R.length + 1) (ha : 0 ≤ a ∧ a ≤ 100) (hb : 0 ≤ b ∧ b ≤ 100) (h : Q (.dat (measD R a b)) μ) :
    Wf F_measure [.dat (.tup [.str n, .tup ms, .tup (R.map enc)]), .dat (.tup [.str n', .int a, .int b])] μ Q X := by
  unfold F_measure fb_measure
  simp [wf_run]
  have hmax : (if a < b then b else a) = max a b := by split <;> omega
  rw [hmax]
  unfold measD at h
  refine ⟨fun hm => ?_, fun hm => ?_⟩
  · rw [if_pos (by omega)] at h; exact h
  · rw [if_neg (by omega)] at h
    refine steps_ok ha hb ?_
    simp
    refine forF_ind (fun i S => ∃ y5 y6 y7 y8 y9, S = ⟨[some (.dat (.tup [.str n, .tup ms, .tup (R.map enc)])), some (.dat (.tup [.str n', .int a, .int b])), some (.dat (.int (gone R len a b i))), some (.dat (.int (gone R (upw (decide (a < b))) a b i))), some (.dat (.int (gone R (upw (!decide (a < b))) a b i))), y5, y6, y7, y8, y9], μ⟩) ⟨none, none, none, none, none, by simp [gone]⟩ (fun i d S hd hI => ?_) (fun S hI => ?_)
    · obtain ⟨y5, y6, y7, y8, y9, rfl⟩ := hI
      obtain ⟨j, hj, ej, fw, rfl, efw⟩ : ∃ j : Int, (0 ≤ j ∧ j < R.length) ∧ j = (if a < b then a + (i : Int) else a - 1 - (i : Int)) ∧ ∃ fw, d = .tup [.int j, .bl fw] ∧ fw = decide (a < b) := by
        rcases stepsL_get hd with ⟨h1, h2, h3⟩ | ⟨h1, h2, h3⟩
        · exact ⟨_, ⟨by omega, by omega⟩, by rw [if_pos h1], true, h3, by simp [h1]⟩
        · exact ⟨_, ⟨by omega, by omega⟩, by rw [if_neg h1], false, h3, by simp [h1]⟩
      simp
      obtain ⟨t, et⟩ : ∃ t, R[j.toNat]? = some t := ⟨_, List.getElem?_eq_getElem (by omega)⟩
      have eat : atI R j = some t := by rw [atI_in hj.1 (by omega)]; exact et
      have g1 : ∀ f, gone R f a b (i + 1) = gone R f a b i + f t := fun f => by rw [gone_succ, ← ej, et]; rfl
      cases fw
      · simp [eat, enc, g1, ← efw, len, upw]
      · simp [eat, enc, g1, ← efw, len, upw]
    · obtain ⟨y5, y6, y7, y8, y9, rfl⟩ := hI
      simpa using h
end GK13

namespace GK13
open PySem PySem.Spec PyProof.Rows L2 L3
theorem lsteps_ok {n : Str} {a b : Int} {μ : List SV} {Q X} (ha : 0 ≤ a ∧ a ≤ 100) (hb : 0 ≤ b ∧ b ≤ 100) (h : Q (.own ((stepsL a b).map SV.dat)) μ) : Wf F__law_steps [.dat (.tup [.str n, .int a, .int b])] μ Q X := by
  have sm : ∀ i : Int, -1 ≤ i → i ≤ 100 → small62 i := fun i h1 h2 => small62_of (by omega) (by omega)
  have hmax : (if a < b then b else a) = max a b := by split <;> omega
  have hmin : (if b < a then b else a) = min a b := by split <;> omega
  unfold F__law_steps fb__law_steps
  simp [wf_run]
  rw [hmax, hmin]
  unfold stepsL at h
  refine br_of (fun hab => ?_) (fun hab => ?_)
  · simp at hab
    simp
    refine ⟨⟨sm _ (by omega) (by omega), sm _ (by omega) (by omega)⟩, ?_⟩
    refine ct_map (fun d => .dat (.tup [d, .bl true])) (by simp; omega) (fun d hd => ?_) ?_
    · simp
    · by_cases hlt : a < b
      · rw [if_pos hlt] at h
        have e1 : min a b = a := by omega
        have e2 : max a b = b := by omega
        rw [e1, e2]
        simp at h ⊢; exact h
      · rw [if_neg hlt] at h
        have e1 : (max a b - min a b).toNat = 0 := by omega
        have e2 : (a - 1 - (b - 1)).toNat = 0 := by omega
        rw [e2] at h; rw [e1]
        simp [rangeL] at h ⊢; exact h
  · simp at hab
    rw [if_neg (by omega)] at h
    have e1 : min a b = b := by omega
    have e2 : max a b = a := by omega
    rw [e1, e2]
    simp
    refine ⟨sm _ (by omega) (by omega), ?_⟩
    refine ct_map (fun d => match d with | .int i => .dat (.tup [.int (a - 1 - i), .bl false]) | _ => .dat .non) (by simp; omega) (fun d hd => ?_) ?_
    · obtain ⟨i, hi, rfl⟩ := mem_range hd
      simp
    · have e3 : (a - 1 - (b - 1)).toNat = (a - b).toNat := by omega
      rw [e3] at h
      simp [rangeL, Function.comp_def] at h ⊢
      have e4 : ∀ x : Nat, a - 1 - (x : Int) = a - 1 + -(x : Int) := fun x => by omega
      simp only [e4]
      exact h
/-- the rows between, summed -/
def btw (R0 : List (Int × Int × Int)) (a b : Int) : List (Int × Int × Int) := (R0.drop (min a b).toNat).take ((max a b).toNat - (min a b).toNat)
theorem sum_rev (g : Nat → Int) : ∀ n : Nat, ((List.range n).map fun j => g (n - 1 - j)).sum = ((List.range n).map g).sum := by
  intro n
  have : (List.range n).map (fun j => g (n - 1 - j)) = ((List.range n).map g).reverse := by
    apply List.ext_getElem
    · simp
    · intro i h1 h2
      simp at h1
      simp
  rw [this, List.sum_reverse]
theorem gone_all {Rw : List (Int × Int × Int)} {f : Int × Int × Int → Int} {a b : Int} (ha : 0 ≤ a) (hb : 0 ≤ b) (hm : max a b ≤ Rw.length) : gone Rw f a b (stepsL a b).length = ((btw Rw a b).map f).sum := by
  have base : ∀ lo hi : Nat, lo ≤ hi → hi ≤ Rw.length → ((List.range (hi - lo)).map fun j => ((Rw[lo + j]?).map f).getD 0).sum = (((Rw.drop lo).take (hi - lo)).map f).sum := fun lo hi h1 h2 => by
    congr 1
    apply List.ext_getElem
    · simp; omega
    · intro i k1 k2
      simp at k1
      have : lo + i < Rw.length := by omega
      simp [List.getElem?_eq_getElem this]
  rw [stepsL_len]
  unfold gone btw
  by_cases hab : a < b
  · simp only [hab, if_true]
    rw [show min a b = a by omega, show max a b = b by omega, ← base a.toNat b.toNat (by omega) (by omega), show (b - a).toNat = b.toNat - a.toNat by omega]
    congr 1
    apply List.map_congr_left
    intro j hj
    rw [show (a + (j : Int)).toNat = a.toNat + j by omega]
  · simp only [hab, if_false]
    rw [show min a b = b by omega, show max a b = a by omega, ← base b.toNat a.toNat (by omega) (by omega), show (a - b).toNat = a.toNat - b.toNat by omega, ← sum_rev]
    congr 1
    apply List.map_congr_left
    intro j hj
    have := List.mem_range.mp hj
    rw [show (a - 1 - ((a.toNat - b.toNat - 1 - j : Nat) : Int)).toNat = b.toNat + j by omega]
theorem due_ok {n n' : Str} {ms : List D} {Rw : List (Int × Int × Int)} {a b : Int} {μ : List SV} {Q X} (hR : Rw.length ≤ 1000) (ha : 0 ≤ a ∧ a ≤ 100) (hb : 0 ≤ b ∧ b ≤ 100) (hab : a ≠ b) (h : Q (.dat (measD Rw a b)) μ) :
    Wf F__law_due [.dat (.tup [.str n, .tup ms, .tup (Rw.map enc)]), .dat (.tup [.str n', .int a, .int b])] μ Q X := by
  have hmax : (if a < b then b else a) = max a b := by split <;> omega
  have hmin : (if b < a then b else a) = min a b := by split <;> omega
  unfold F__law_due fb__law_due
  simp [wf_run]
  rw [hmax, hmin]
  unfold measD at h
  refine ⟨fun hm => ?_, fun hm => ?_⟩
  · rw [if_pos (by omega)] at h; exact h
  · rw [if_neg (by omega), gone_all ha.1 hb.1 (by omega), gone_all ha.1 hb.1 (by omega), gone_all ha.1 hb.1 (by omega)] at h
    have ecut : cutD (Rw.map enc) (some (min a b)) (some (max a b)) = (btw Rw a b).map enc := by
      have e1 : min a b = (((min a b).toNat : Nat) : Int) := by omega
      have e2 : max a b = (((max a b).toNat : Nat) : Int) := by omega
      rw [e1, e2, cut_nat _ _ _ (by simp; omega) (by simp; omega)]
      unfold btw
      rw [List.map_take, List.map_drop]
    rw [ecut]
    have hl : (btw Rw a b).length ≤ 1000 := by unfold btw; simp; omega
    have row : ∀ d ∈ (btw Rw a b).map enc, ∃ t, d = enc t := fun d hd => by
      obtain ⟨t, _, rfl⟩ := List.mem_map.mp hd; exact ⟨t, rfl⟩
    refine ct_map (fun d => match d with | .tup (x :: _) => .dat x | _ => .dat .non) (by simp; omega) (fun d hd => ?_) ?_
    · obtain ⟨t, rfl⟩ := row d hd; simp [enc]
    simp [Function.comp_def, enc]
    refine ct_map (fun d => match d with | .tup (_ :: x :: _) => .dat x | _ => .dat .non) (by simp; omega) (fun d hd => ?_) ?_
    · obtain ⟨t, _, rfl⟩ := List.mem_map.mp hd; simp [enc]
    simp [Function.comp_def, enc]
    refine ct_map (fun d => match d with | .tup (_ :: _ :: x :: _) => .dat x | _ => .dat .non) (by simp; omega) (fun d hd => ?_) ?_
    · obtain ⟨t, _, rfl⟩ := List.mem_map.mp hd; simp [enc]
    simp [Function.comp_def, enc]
    refine ⟨fun hc => ?_, fun hc => ?_⟩
    · have : a < b := by omega
      simp [this, upw] at h
      exact h
    · have : ¬ a < b := by omega
      simp [this, upw] at h
      exact h
end GK13

namespace GK13
open PySem PySem.Spec PyProof.Rows L2 L3
/-- a small word -/
def Wd (x : Str) : Prop := x.length ≤ 8 ∧ PyData.canLay0 (.str x) = true
def RowOk (t : Int × Int × Int) : Prop := (0 ≤ t.1 ∧ t.1 ≤ 1000) ∧ (0 ≤ t.2.1 ∧ t.2.1 ≤ 1000) ∧ (0 ≤ t.2.2 ∧ t.2.2 ≤ 1000)
/-- a section -/
structure Sec (d : D) (n : Str) (ms : List Str) (Rw : List (Int × Int × Int)) : Prop where
  eq : d = .tup [.str n, .tup (ms.map D.str), .tup (Rw.map enc)]
  len : ms.length = Rw.length + 1
  few : Rw.length ≤ 7
  name : Wd n
  marks : ∀ m ∈ ms, Wd m
  rows : ∀ t ∈ Rw, RowOk t
theorem sum_bd {n : Int} (hn : 0 ≤ n) : ∀ {xs : List Int}, (∀ x ∈ xs, 0 ≤ x ∧ x ≤ n) → 0 ≤ xs.sum ∧ xs.sum ≤ n * xs.length
  | [], _ => by simp
  | x :: xs, h => by
    have h1 := h x (by simp)
    have h2 := sum_bd hn (xs := xs) fun y hy => h y (by simp [hy])
    simp only [List.sum_cons, List.length_cons]
    have : n * ((xs.length + 1 : Nat) : Int) = n * xs.length + n := by rw [Int.natCast_add, Int.mul_add]; simp
    omega
theorem steps_sm {a b : Int} (ha : 0 ≤ a ∧ a ≤ 100) (hb : 0 ≤ b ∧ b ≤ 100) : (D.lst (stepsL a b)).sm ∧ (D.lst (stepsL a b)).wt ≤ 2 ^ 20 ∧ (D.lst (stepsL a b)).dp ≤ 64 := by
  have it : ∀ d ∈ stepsL a b, ∃ j f, (-200 ≤ j ∧ j ≤ 200) ∧ d = .tup [.int j, .bl f] := fun d hd => by
    obtain ⟨i, hi⟩ := List.mem_iff_getElem?.mp hd
    rcases stepsL_get hi with ⟨h1, h2, h3⟩ | ⟨h1, h2, h3⟩
    · exact ⟨_, _, ⟨by omega, by omega⟩, h3⟩
    · exact ⟨_, _, ⟨by omega, by omega⟩, h3⟩
  refine ⟨smL_iff.mpr fun d hd => ?_, ?_, ?_⟩
  · obtain ⟨j, f, hj, rfl⟩ := it d hd
    simp [D.sm, smL]; omega
  · have h1 : wtL (stepsL a b) ≤ (stepsL a b).length * (50 + 1) := wtL_le fun d hd => by
      obtain ⟨j, f, hj, rfl⟩ := it d hd
      simp [D.wt, wtL]
    have h2 : (stepsL a b).length ≤ 100 := by rw [stepsL_len]; split <;> omega
    show wtL (stepsL a b) ≤ _
    omega
  · have : dpL (stepsL a b) ≤ 1 := dpL_le fun d hd => by
      obtain ⟨j, f, hj, rfl⟩ := it d hd
      simp [D.dp, dpL]
    show dpL (stepsL a b) + 1 ≤ 64
    omega
theorem btw_mem {Rw : List (Int × Int × Int)} {a b : Int} {t : Int × Int × Int} (h : t ∈ btw Rw a b) : t ∈ Rw := List.mem_of_mem_drop (List.mem_of_mem_take h)
theorem btw_sum {Rw : List (Int × Int × Int)} {a b : Int} {f : Int × Int × Int → Int} (hl : Rw.length ≤ 7) (h : ∀ t ∈ Rw, 0 ≤ f t ∧ f t ≤ 1000) : 0 ≤ ((btw Rw a b).map f).sum ∧ ((btw Rw a b).map f).sum ≤ 7000 := by
  have h1 := sum_bd (n := 1000) (by decide) (xs := (btw Rw a b).map f) fun x hx => by
    obtain ⟨t, ht, rfl⟩ := List.mem_map.mp hx
    exact h t (btw_mem ht)
  have h2 : ((btw Rw a b).map f).length ≤ 7 := by unfold btw; simp; omega
  omega
/-- what is measured, by the rows between -/
theorem meas_eq {Rw : List (Int × Int × Int)} {a b : Int} (ha : 0 ≤ a) (hb : 0 ≤ b) (hm : max a b ≤ Rw.length) : measD Rw a b = .tup [.int ((btw Rw a b).map len).sum, .int ((btw Rw a b).map (upw (decide (a < b)))).sum, .int ((btw Rw a b).map (upw (!decide (a < b)))).sum] := by
  unfold measD
  rw [if_neg (by omega), gone_all ha hb hm, gone_all ha hb hm, gone_all ha hb hm]
theorem upw_ok {t : Int × Int × Int} {f : Bool} (h : RowOk t) : 0 ≤ upw f t ∧ upw f t ≤ 1000 := by
  obtain ⟨h1, h2, h3⟩ := h
  cases f
  · exact h3
  · exact h2
theorem meas_sm {Rw : List (Int × Int × Int)} {a b : Int} (hl : Rw.length ≤ 7) (h : ∀ t ∈ Rw, RowOk t) (ha : 0 ≤ a) (hb : 0 ≤ b) : (measD Rw a b).sm ∧ (measD Rw a b).wt ≤ 2 ^ 20 ∧ (measD Rw a b).dp ≤ 64 := by
  by_cases hm : max a b ≤ Rw.length
  · rw [meas_eq ha hb hm]
    have h1 := btw_sum (f := len) (a := a) (b := b) hl fun t ht => (h t ht).1
    have h2 := btw_sum (f := upw (decide (a < b))) (a := a) (b := b) hl fun t ht => upw_ok (h t ht)
    have h3 := btw_sum (f := upw (!decide (a < b))) (a := a) (b := b) hl fun t ht => upw_ok (h t ht)
    refine ⟨?_, by simp [D.wt, wtL], by simp [D.dp, dpL]⟩
    simp only [D.sm, smL]
    exact ⟨by omega, by omega, by omega, trivial⟩
  · unfold measD; rw [if_pos (by omega)]; simp [D.sm, D.wt, D.dp]
theorem leg_ok {d : D} {n n' : Str} {ms : List Str} {Rw : List (Int × Int × Int)} {a b : Int} {μ : List SV} {Q X} (hs : Sec d n ms Rw) (ha : 0 ≤ a ∧ a ≤ 7) (hb : 0 ≤ b ∧ b ≤ 7) (hab : a ≠ b) (h : Q (.dat (.bl true)) μ) :
    Wf F__law_leg_right [.dat d, .dat (.tup [.str n', .int a, .int b])] μ Q X := by
  obtain ⟨rfl, h1, h2, h3, h4, h5⟩ := hs
  obtain ⟨s1, s2, s3⟩ := steps_sm (a := a) (b := b) (by omega) (by omega)
  obtain ⟨m1, m2, m3⟩ := meas_sm h2 h5 ha.1 hb.1
  obtain ⟨d0, ds, e0⟩ : ∃ d0 ds, stepsL a b = d0 :: ds := by
    cases e : stepsL a b with
    | nil => have := congrArg List.length e; rw [stepsL_len] at this; split at this <;> simp at this <;> omega
    | cons d0 ds => exact ⟨d0, ds, rfl⟩
  obtain ⟨j, f, rfl⟩ : ∃ j f, d0 = .tup [.int j, .bl f] := by
    rcases stepsL_get (a := a) (b := b) (i := 0) (d := d0) (by rw [e0]; rfl) with ⟨_, _, h3⟩ | ⟨_, _, h3⟩
    · exact ⟨_, _, h3⟩
    · exact ⟨_, _, h3⟩
  have hlen : ds.length ≤ 100 := by
    have := congrArg List.length e0; rw [stepsL_len] at this; split at this <;> simp at this <;> omega
  have rs := repr_sm s1 s2 s3
  have rm := repr_sm m1 m2 m3
  unfold F__law_leg_right fb__law_leg_right
  simp [wf_run]
  refine steps_ok (by omega) (by omega) ?_
  simp [rs]
  refine lsteps_ok (by omega) (by omega) ?_
  simp [rs]
  refine measure_ok (by simpa using h1) (by omega) (by omega) ?_
  simp [rm]
  refine due_ok (by omega) (by omega) (by omega) hab ?_
  simp [rm, e0]
  refine ⟨by omega, ?_⟩
  refine steps_ok (by omega) (by omega) ?_
  simp [rs]
  refine lsteps_ok (by omega) (by omega) ?_
  simp [rs]
  exact h
end GK13

namespace GK13
open PySem PySem.Spec PyProof.Rows L2 L3
theorem btw_add {Rw : List (Int × Int × Int)} {lo m hi : Int} {f : Int × Int × Int → Int} (h0 : 0 ≤ lo) (h1 : lo ≤ m) (h2 : m ≤ hi) : ((btw Rw lo m).map f).sum + ((btw Rw m hi).map f).sum = ((btw Rw lo hi).map f).sum := by
  unfold btw
  rw [show min lo m = lo by omega, show max lo m = m by omega, show min m hi = m by omega, show max m hi = hi by omega, show min lo hi = lo by omega, show max lo hi = hi by omega]
  rw [← List.sum_append, ← List.map_append]
  congr 2
  have e : hi.toNat - lo.toNat = (m.toNat - lo.toNat) + (hi.toNat - m.toNat) := by omega
  rw [e, List.take_add, List.drop_drop]
  congr 3
  omega
theorem btw_symm {Rw : List (Int × Int × Int)} {a b : Int} : btw Rw a b = btw Rw b a := by
  unfold btw; rw [Int.min_comm, Int.max_comm]
theorem btw_part {Rw : List (Int × Int × Int)} {a b m : Int} {f : Int × Int × Int → Int} (ha : 0 ≤ a) (hb : 0 ≤ b) (h1 : min a b ≤ m) (h2 : m ≤ max a b) : ((btw Rw a m).map f).sum + ((btw Rw m b).map f).sum = ((btw Rw a b).map f).sum := by
  by_cases hab : a ≤ b
  · exact btw_add ha (by omega) (by omega)
  · rw [btw_symm (a := a) (b := m), btw_symm (a := m) (b := b), btw_symm (a := a) (b := b), Int.add_comm]
    exact btw_add hb (by omega) (by omega)
theorem parts_ok {d : D} {n n' : Str} {ms : List Str} {Rw : List (Int × Int × Int)} {a b : Int} {μ : List SV} {Q X} (hs : Sec d n ms Rw) (ha : 0 ≤ a) (hb : 0 ≤ b) (hm : max a b ≤ Rw.length) (h : Q (.dat (.bl true)) μ) :
    Wf F__law_in_parts [.dat d, .dat (.tup [.str n', .int a, .int b])] μ Q X := by
  obtain ⟨rfl, h1, h2, h3, h4, h5⟩ := hs
  have hmax : (if a < b then b else a) = max a b := by split <;> omega
  have hmin : (if b < a then b else a) = min a b := by split <;> omega
  unfold F__law_in_parts fb__law_in_parts
  simp [wf_run]
  rw [hmax, hmin]
  refine ⟨⟨small62_of (by omega) (by omega), small62_of (by omega) (by omega)⟩, ?_⟩
  refine forF_ind (fun i S => ∃ y2 y3, S = ⟨[some (.dat (.tup [.str n, .tup (ms.map D.str), .tup (Rw.map enc)])), some (.dat (.tup [.str n', .int a, .int b])), y2, y3, none], μ⟩) ⟨none, none, by simp⟩ (fun i d S hd hI => ?_) (fun S hI => ?_)
  · obtain ⟨y2, y3, rfl⟩ := hI
    obtain ⟨j, hj, rfl⟩ := mem_range (List.mem_of_getElem? hd)
    generalize hm0 : min a b + 1 + (j : Int) * 1 = m
    have m1 : min a b ≤ m := by omega
    have m2 : m ≤ max a b := by omega
    have m3 : min a b < m := by omega
    have m4 : m < max a b := by omega
    simp
    refine measure_ok (by simpa using h1) (by omega) (by omega) ?_
    rw [meas_eq ha (by omega) (by omega)]
    simp
    refine measure_ok (by simpa using h1) (by omega) (by omega) ?_
    rw [meas_eq (by omega) hb (by omega)]
    simp
    have f1 : decide (a < m) = decide (a < b) := by rw [decide_eq_decide]; omega
    have f2 : decide (m < b) = decide (a < b) := by rw [decide_eq_decide]; omega
    rw [f1, f2]
    generalize hp : (D.tup [.int ((btw Rw a m).map len).sum, .int ((btw Rw a m).map (upw (decide (a < b)))).sum, .int ((btw Rw a m).map (upw (!decide (a < b)))).sum]) = p
    generalize hq : (D.tup [.int ((btw Rw m b).map len).sum, .int ((btw Rw m b).map (upw (decide (a < b)))).sum, .int ((btw Rw m b).map (upw (!decide (a < b)))).sum]) = q
    refine ⟨small62_of (by decide) (by decide), ?_⟩
    refine ct_map (fun d => match d with | .int k => .dat (.int ([((btw Rw a b).map len).sum, ((btw Rw a b).map (upw (decide (a < b)))).sum, ((btw Rw a b).map (upw (!decide (a < b)))).sum][k.toNat]?.getD 0)) | _ => .dat .non) (by simp) (fun d hd => ?_) ?_
    · obtain ⟨k, hk, rfl⟩ := mem_range hd
      subst hp hq
      match k, hk with
      | 0, _ => simp [btw_part ha hb m1 m2]
      | 1, _ => simp [btw_part ha hb m1 m2]
      | 2, _ => simp [btw_part ha hb m1 m2]
    · simp [rangeL, List.range_succ]
      refine measure_ok (by simpa using h1) (by omega) (by omega) ?_
      obtain ⟨w1, w2, w3⟩ := meas_sm h2 h5 ha hb
      rw [meas_eq ha hb hm] at w1 w2 w3 ⊢
      simp [eqD_sm w1 w1 w3 w3, eqT_self w1]
  · obtain ⟨y2, y3, rfl⟩ := hI
    simp; exact h
end GK13

namespace GK13
open PySem PySem.Spec PyProof.Rows L2 L3
theorem begin_ok {ns : List Int} {μ : List SV} {Q X} (hn : ns.length ≤ 63) (h : ∀ cs : List Int, 0 < cs.length → cs.length ≤ 1000 → Q (.node (.dK drawKs) [.dat (.lst (cs.map D.int)), .dat (.int 0), .dat (.int 0), .dat (.int 0)]) μ) : Wf F__law_begin [.dat (.lst (ns.map D.int))] μ Q X := by
  unfold F__law_begin fb__law_begin
  simp [wf_run, show ¬ (Str.ofString "cells" = Str.ofString "at") by decide, show ¬ (Str.ofString "cells" = Str.ofString "left") by decide, show ¬ (Str.ofString "cells" = Str.ofString "used") by decide, show ¬ (Str.ofString "at" = Str.ofString "left") by decide, show ¬ (Str.ofString "at" = Str.ofString "used") by decide, show ¬ (Str.ofString "left" = Str.ofString "used") by decide]
  refine ⟨by omega, ?_⟩
  have := h (ns ++ [0]) (by simp) (by simp; omega)
  simpa using this
theorem row3 {a b c : Int} (h1 : 0 ≤ a ∧ a ≤ 1000) (h2 : 0 ≤ b ∧ b ≤ 1000) (h3 : 0 ≤ c ∧ c ≤ 1000) : RowOk (a, b, c) := ⟨h1, h2, h3⟩
theorem stretch_ok {B : Int} {x : SV} {Q X} (hx : Dr B x) (hB : B < 2 ^ 48) (h : ∀ t x', RowOk t → Dr (B + 4) x' → Q (.dat (enc t)) [x']) : Wf F__law_stretch [.cell 0] [x] Q X := by
  have up : ∀ {B C x}, Dr B x → B ≤ C → Dr C x := fun ⟨cs, a, l, u, e, h1, h2, h3, h4, h5, h6, h7⟩ hc => ⟨cs, a, l, u, e, h1, h2, h3, by omega, h5, h6, by omega⟩
  unfold F__law_stretch fb__law_stretch
  simp [wf_run]
  refine next_ok hx (by omega) (by decide) fun r0 x0 a0 b0 hx0 => ?_
  simp
  refine ⟨fun e0 => ?_, fun e0 => ⟨fun e1 => ?_, fun e1 => ⟨fun e2 => ?_, fun e2 => ?_⟩⟩⟩
  · refine next_ok hx0 (by omega) (by decide) fun r1 x1 a1 b1 hx1 => ?_
    simp
    refine next_ok hx1 (by omega) (by decide) fun r2 x2 a2 b2 hx2 => ?_
    simp
    refine next_ok hx2 (by omega) (by decide) fun r3 x3 a3 b3 hx3 => ?_
    simp
    exact h (1 + r1, r2, r3) x3 (row3 (by omega) (by omega) (by omega)) (up hx3 (by omega))
  · refine next_ok hx0 (by omega) (by decide) fun r1 x1 a1 b1 hx1 => ?_
    simp
    exact h (1, 0, r1) x1 (row3 (by omega) (by omega) (by omega)) (up hx1 (by omega))
  · refine next_ok hx0 (by omega) (by decide) fun r1 x1 a1 b1 hx1 => ?_
    simp
    exact h (999, 999, 999 * r1) x1 (row3 (by omega) (by omega) (by omega)) (up hx1 (by omega))
  · refine next_ok hx0 (by omega) (by decide) fun r1 x1 a1 b1 hx1 => ?_
    simp
    refine next_ok hx1 (by omega) (by decide) fun r2 x2 a2 b2 hx2 => ?_
    simp
    refine next_ok hx2 (by omega) (by decide) fun r3 x3 a3 b3 hx3 => ?_
    simp
    exact h (1 + r1, r2, r3) x3 (row3 (by omega) (by omega) (by omega)) (up hx3 (by omega))
end GK13

namespace GK13
open PySem PySem.Spec PyProof.Rows L2 L3
theorem Dr.up {B C : Int} {x : SV} (h : Dr B x) (hc : B ≤ C) : Dr C x := by
  obtain ⟨cs, a, l, u, e, h1, h2, h3, h4, h5, h6, h7⟩ := h
  exact ⟨cs, a, l, u, e, h1, h2, h3, by omega, h5, h6, by omega⟩
theorem lay_iff {x : Str} : PyData.canLay0 (.str x) = true ↔ ∀ c ∈ x.cps.toList, c < 0x110000 := by
  simp only [PyData.canLay0, PyData.strOk, Array.all_eq_true, decide_eq_true_eq]
  constructor
  · intro h c hc
    obtain ⟨i, hi, rfl⟩ := List.mem_iff_getElem.mp hc
    simpa using h i (by simpa using hi)
  · intro h i hi
    exact h _ (by simp)
theorem glued_mem (g : Str) : ∀ (rest : List Str) (acc : Array Nat) (c : Nat), c ∈ (rest.foldl (fun acc p => acc ++ g.cps ++ p.cps) acc).toList → c ∈ acc.toList ∨ c ∈ g.cps.toList ∨ ∃ p ∈ rest, c ∈ p.cps.toList
  | [], acc, c, h => .inl h
  | p :: rest, acc, c, h => by
    rcases glued_mem g rest _ c h with h | h | ⟨q, hq, h⟩
    · simp only [Array.toList_append, List.mem_append] at h
      rcases h with (h | h) | h
      · exact .inl h
      · exact .inr (.inl h)
      · exact .inr (.inr ⟨p, by simp, h⟩)
    · exact .inr (.inl h)
    · exact .inr (.inr ⟨q, by simp [hq], h⟩)
theorem join_lay {ys : List Str} (h : ∀ y ∈ ys, PyData.canLay0 (.str y) = true) : PyData.canLay0 (.str (Txt.join (Str.ofString "") ys)) = true := by
  rw [lay_iff]
  intro c hc
  cases ys with
  | nil => exact absurd hc (by simp [Txt.join, Builtin.Str.glued, Str.empty])
  | cons y ys =>
    rcases glued_mem (Str.ofString "") ys y.cps c hc with h1 | h1 | ⟨q, hq, h1⟩
    · exact lay_iff.mp (h y (by simp)) c h1
    · have e0 : (Str.ofString "").cps.toList = [] := by decide
      rw [e0] at h1; cases h1
    · exact lay_iff.mp (h q (by simp [hq])) c h1
theorem join_len {ys : List Str} (h : ∀ y ∈ ys, y.length = 1) : (Txt.join (Str.ofString "") ys).length = ys.length := by
  show (Builtin.Str.glued (Str.ofString "") ys).length = _
  rw [size_glued]
  have z : (Str.ofString "").length = 0 := by decide
  rw [z, Nat.mul_zero, Nat.add_zero]
  induction ys with
  | nil => rfl
  | cons y ys ih =>
    rw [List.map_cons, List.sum_cons, ih fun x hx => h x (by simp [hx]), h y (by simp), List.length_cons]; omega
abbrev letters : Str := "abcdefghijklmnopqrstuvwxyz"
theorem letters_ok : letters.cps.toList.length = 26 ∧ (∀ c ∈ letters.cps.toList, c < 128) ∧ letters.length ≤ 1000000 := by decide +kernel
theorem lay1 {c : Nat} (h : c < 128) : PyData.canLay0 (.str ⟨#[c]⟩) = true := by
  rw [lay_iff]; intro d hd; simp at hd; omega
abbrev tenWords : Str := "ride book closed walk section halts beside badge length climb"
theorem ten_ok : (Txt.split tenWords " ").length = 10 ∧ (∀ y ∈ Txt.split tenWords " ", Wd y) := by
  have : (Txt.split tenWords " ").length = 10 ∧ (∀ y ∈ Txt.split tenWords " ", y.length ≤ 8 ∧ PyData.canLay0 (.str y) = true) := by decide +kernel
  exact this
/-- a word of two letters -/
def two (k : Nat) : Str := ⟨#[97 + k / 26, 97 + k % 26]⟩
theorem filter_add (l : List Str) (w : Str) (ws : List Str) : (l.filter fun x => decide (x ∈ w :: ws)).length ≤ (l.filter fun x => decide (x ∈ ws)).length + l.count w := by
  induction l with
  | nil => simp
  | cons x l ih =>
    rw [List.count_cons]
    by_cases h1 : x = w
    · subst h1
      have e : (x == x) = true := by simp
      simp only [List.filter_cons, List.mem_cons, true_or, decide_true, if_true, List.length_cons, e]
      split <;> simp <;> simp at ih <;> omega
    · have e : (x == w) = false := by simpa using h1
      by_cases h2 : x ∈ ws <;> simp [List.filter_cons, h1, h2, e] <;> simp at ih <;> omega
theorem filter_few {l : List Str} (nd : l.Nodup) : ∀ ws : List Str, (l.filter fun x => decide (x ∈ ws)).length ≤ ws.length
  | [] => by simp
  | w :: ws => by
    have h1 := filter_add l w ws
    have h2 := filter_few nd ws
    have h3 := List.nodup_iff_count.mp nd w
    rw [List.length_cons]; omega
theorem two_nodup : ((List.range 676).map two).Nodup := by
  rw [List.Nodup, List.pairwise_map]
  refine List.Pairwise.imp_of_mem (fun {a b} ha hb h e => ?_) List.nodup_range
  have h1 := List.mem_range.mp ha
  have h2 := List.mem_range.mp hb
  have e2 : (#[97 + a / 26, 97 + a % 26] : Array Nat) = #[97 + b / 26, 97 + b % 26] := congrArg Str.cps e
  have e3 := congrArg Array.toList e2
  simp at e3
  omega
theorem rest_many {ws : List Str} : 676 ≤ (((List.range 676).map two).filter fun x => !decide (x ∈ ws)).length + ws.length := by
  have h1 := filter_few two_nodup ws
  have h2 : ∀ l : List Str, l.length = (l.filter fun x => decide (x ∈ ws)).length + (l.filter fun x => !decide (x ∈ ws)).length := by
    intro l
    induction l with
    | nil => rfl
    | cons x l ih => by_cases h : x ∈ ws <;> simp [List.filter_cons, h] <;> omega
  have h3 := h2 ((List.range 676).map two)
  rw [List.length_map, List.length_range] at h3
  omega
end GK13

namespace GK13
open PySem PySem.Spec PyProof.Rows L2 L3
abbrev sL (ws : List Str) : List SV := ws.map fun w => SV.dat (.str w)
def tailP : FS := (fSeq (fIf (fTest (fBin (g2 (inD false)) (fVar 5) (fVar 3))) (fSeq (fSet 7 (fComp (.nm 8) (fRange range1 (fCons (fC (.int 676)) fNil)) fYes (fBin gAdd (fBin gIx (fVar 2) (fBin (g2 (dI iDiv)) (fVar 8) (fC (.int 26)))) (fBin gIx (fVar 2) (fBin (g2 (dI iMod)) (fVar 8) (fC (.int 26))))) [8]))
    (fSet 5 (fBin gIx (fComp (.nm 9) (fItems (fVar 7)) (fTest (fBin (g2 (inD true)) (fVar 9) (fVar 3))) (fVar 9) [9]) (fGo F__law_next [] (fCons (fVar 0) (fCons (fC (.int 600)) fNil)))))) fNext)
    (fAppend (fVar 3) (fVar 5)))
theorem tailP_eq : tailP = (fSeq (fIf (fTest (fBin (g2 (inD false)) (fVar 5) (fVar 3))) (fSeq (fSet 7 (fComp (.nm 8) (fRange range1 (fCons (fC (.int 676)) fNil)) fYes (fBin gAdd (fBin gIx (fVar 2) (fBin (g2 (dI iDiv)) (fVar 8) (fC (.int 26)))) (fBin gIx (fVar 2) (fBin (g2 (dI iMod)) (fVar 8) (fC (.int 26))))) [8]))
    (fSet 5 (fBin gIx (fComp (.nm 9) (fItems (fVar 7)) (fTest (fBin (g2 (inD true)) (fVar 9) (fVar 3))) (fVar 9) [9]) (fGo F__law_next [] (fCons (fVar 0) (fCons (fC (.int 600)) fNil)))))) fNext)
    (fAppend (fVar 3) (fVar 5))) := rfl
theorem pushed {ws : List Str} {w : Str} : sL ws ++ [.dat (.str w)] = sL (ws ++ [w]) := by simp
theorem two_get {k : Nat} (h : k < 676) : letters.cps.toList[k / 26]? = some (97 + k / 26) ∧ letters.cps.toList[k % 26]? = some (97 + k % 26) := by
  have : ∀ j < 26, letters.cps.toList[j]? = some (97 + j) := by decide +kernel
  exact ⟨this _ (by omega), this _ (Nat.mod_lt _ (by decide))⟩
theorem tail_ok {B m : Int} {x : SV} {y4 y6 y7 : Option SV} {w : Str} {ws : List Str} {P : SO → Prop} (hx : Dr B x) (hB : B < 2 ^ 45) (hl : ws.length ≤ 20) (hw : Wd w) (hs : ∀ w ∈ ws, Wd w)
    (h : ∀ w' x' y7, Wd w' → Dr (B + 1) x' → P (.nx ⟨[some (.cell 0), some (.dat (.int m)), some (.dat (.str letters)), some (.own (sL (ws ++ [w']))), y4, some (.dat (.str w')), y6, y7, none, none], [x']⟩)) :
    Ws tailP ⟨[some (.cell 0), some (.dat (.int m)), some (.dat (.str letters)), some (.own (sL ws)), y4, some (.dat (.str w)), y6, y7, none, none], [x]⟩ P := by
  unfold tailP
  have e1 : inD false (.str w) (.lst (ws.map D.str)) = some (.bl (xorB false (decide (w ∈ ws)))) := by
    rw [inD_sm (x := .str w) hw.2 (strs_sm fun y hy => (hs y hy).2) (by simp [D.dp]) (Nat.le_trans strs_dp (by decide)), inT_str]
  simp [e1, xorB]
  refine ⟨fun hin => ⟨small62_of (by decide) (by decide), ?_⟩, fun hin => ⟨by omega, ?_⟩⟩
  · refine ct_map (fun d => match d with | .int k => .dat (.str (two k.toNat)) | _ => .dat .non) (by simp) (fun d hd => ?_) ?_
    · obtain ⟨k, hk, rfl⟩ := mem_range hd
      have hk : k < 676 := hk
      obtain ⟨t1, t2⟩ := two_get hk
      have u1 : atI letters.cps.toList ((k : Int) / 26) = some (97 + k / 26) := by
        rw [atI_in (by omega) (by rw [letters_ok.1]; omega), show ((k : Int) / 26).toNat = k / 26 by omega]; exact t1
      have u2 : atI letters.cps.toList ((k : Int) % 26) = some (97 + k % 26) := by
        rw [atI_in (by omega) (by rw [letters_ok.1]; omega), show ((k : Int) % 26).toNat = k % 26 by omega]; exact t2
      have l3 := letters_ok.2.2
      simp [u1, u2, l3]
      exact ⟨by show 1 + 1 ≤ 1000000; decide, by unfold two; rfl⟩
    · have eg : (rangeL 0 676 1).map (fun d => match d with | .int k => SV.dat (.str (two k.toNat)) | _ => .dat .non) = ((List.range 676).map two).map fun w => SV.dat (.str w) := by
        unfold rangeL; rw [List.map_map, List.map_map]
        apply List.map_congr_left
        intro k _
        simp
      rw [eg]
      simp
      rw [show peeks (List.map ((fun w => SV.dat (D.str w)) ∘ two) (List.range 676)) = some ((List.range 676).map (D.str ∘ two)) from peeks_mapf (f := D.str ∘ two), ob_some]
      simp
      have lay2 : ∀ k : Nat, k < 676 → Wd (two k) := fun k hk => ⟨by show 2 ≤ 8; decide, by rw [lay_iff]; intro c hc; have hc : c ∈ [97 + k / 26, 97 + k % 26] := hc; simp only [List.mem_cons, List.not_mem_nil, or_false] at hc; omega⟩
      refine ct_filter (fun d => match d with | .str v => !decide (v ∈ ws) | _ => false) SV.dat (by rw [List.length_map, List.length_range]; decide) (fun d hd => ?_) ?_
      · obtain ⟨k, hk, rfl⟩ := List.mem_map.mp hd
        have hk : k < 676 := List.mem_range.mp hk
        have e2 : inD true (.str (two k)) (.lst (ws.map D.str)) = some (.bl (xorB true (decide (two k ∈ ws)))) := by
          rw [inD_sm (x := .str (two k)) (lay2 k hk).2 (strs_sm fun y hy => (hs y hy).2) (by simp [D.dp]) (Nat.le_trans strs_dp (by decide)), inT_str]
        simp [e2, xorB]
      · have ef : (((List.range 676).map (D.str ∘ two)).filter fun d => match d with | .str v => !decide (v ∈ ws) | _ => false) = (((List.range 676).map two).filter fun v => !decide (v ∈ ws)).map D.str := by
          rw [← List.map_map, List.filter_map]; rfl
        rw [ef]
        have many := rest_many (ws := ws)
        generalize hf : ((List.range 676).map two).filter (fun v => !decide (v ∈ ws)) = fs at many
        have hfs : ∀ v ∈ fs, Wd v := fun v hv => by
          rw [← hf] at hv
          obtain ⟨k, hk, rfl⟩ := List.mem_map.mp (List.mem_filter.mp hv).1
          exact lay2 k (List.mem_range.mp hk)
        simp
        refine next_ok hx (by omega) (by decide) fun r1 x1 a1 b1 d1 => ?_
        simp
        refine ob_ixN a1 (by omega) fun j hj => ?_
        obtain ⟨v, hv⟩ : ∃ v, fs[j]? = some v := ⟨_, List.getElem?_eq_getElem hj⟩
        simp [hv]
        have := h v x1 (some (.dat (.lst ((List.range 676).map (D.str ∘ two))))) (hfs v (List.mem_of_getElem? hv)) d1
        refine ⟨by omega, ?_⟩
        simpa using this
  · have := h w x y7 hw (hx.up (by omega))
    simpa using this
/-- the new word, in any case -/
theorem words_ok {B m : Int} {x : SV} {Q X} (hx : Dr B x) (hB : B < 2 ^ 40) (hm : 0 ≤ m ∧ m ≤ 20) (h : ∀ (ws : List Str) (x' : SV), (ws.length : Int) = m → (∀ w ∈ ws, Wd w) → Dr (B + 1000) x' → Q (.own (sL ws)) [x']) :
    Wf F__law_words [.cell 0, .dat (.int m)] [x] Q X := by
  unfold F__law_words fb__law_words
  rw [← tailP_eq]
  simp [wf_run]
  refine whileF_ind (m := m.toNat) (fun k S => ∃ ws x' y4 y5 y6 y7, S = ⟨[some (.cell 0), some (.dat (.int m)), some (.dat (.str letters)), some (.own (sL ws)), y4, y5, y6, y7, none, none], [x']⟩ ∧ ws.length + k = m.toNat ∧ (∀ w ∈ ws, Wd w) ∧ Dr (B + 40 * (ws.length : Int)) x')
    ⟨[], x, none, none, none, none, by simp, by simp, by simp, by simpa using hx⟩ (by omega) (fun k S hI => ?_)
  obtain ⟨ws, x', y4, y5, y6, y7, rfl, hk, hw, hd⟩ := hI
  simp
  refine ⟨fun hlt => ?_, fun hge => ?_⟩
  · refine next_ok hd (by omega) (by decide) fun r1 x1 a1 b1 d1 => ?_
    simp
    refine next_ok d1 (by omega) (by decide) fun r2 x2 a2 b2 d2 => ?_
    simp
    refine next_ok d2 (by omega) (by decide) fun r3 x3 a3 b3 d3 => ?_
    simp
    refine ob_ixN a3 (by simpa using b3) fun j hj => ?_
    obtain ⟨sz, hsz, e⟩ : ∃ sz : Int, (0 ≤ sz ∧ sz ≤ 8) ∧ ([SV.dat (.int (1 + r1)), .dat (.int (1 + r2)), .dat (.int 8)] : List SV)[j]? = some (.dat (.int sz)) := by
      match j, hj with
      | 0, _ => exact ⟨1 + r1, by omega, rfl⟩
      | 1, _ => exact ⟨1 + r2, by omega, rfl⟩
      | 2, _ => exact ⟨8, by omega, rfl⟩
    simp [e]
    refine ⟨small62_of (by omega) (by omega), ?_⟩
    refine ct_ind (fun i acc μ => ∃ ys x', acc = sL ys ∧ ys.length = i ∧ (∀ y ∈ ys, y.length = 1 ∧ PyData.canLay0 (.str y) = true) ∧ μ = [x'] ∧ Dr (B + 40 * (ws.length : Int) + 3 + (i : Int)) x') (by rw [range_len]; omega)
      ⟨[], x3, rfl, rfl, by simp, rfl, by simpa [Int.add_assoc] using d3⟩ (fun i d acc μ hd hI => ?_) (fun acc μ hI => ?_)
    · obtain ⟨ys, x4, rfl, rfl, hys, rfl, d4⟩ := hI
      have hi := (List.getElem?_eq_some_iff.mp hd).1
      rw [range_len] at hi
      simp
      refine next_ok d4 (by omega) (by decide) fun r x5 a b d5 => ?_
      simp [letters_ok.2.2]
      refine ob_at a (by rw [letters_ok.1]; exact b) fun c hc => ?_
      have hc2 := letters_ok.2.1 c hc
      simp
      refine ⟨ys ++ [⟨#[c]⟩], by simp, by simp, fun y hy => ?_, d5.up (by omega)⟩
      rcases List.mem_append.mp hy with hy | hy
      · exact hys y hy
      · rw [List.mem_singleton.mp hy]; exact ⟨rfl, lay1 hc2⟩
    · obtain ⟨ys, x4, rfl, hyl, hys, rfl, d4⟩ := hI
      rw [range_len] at hyl d4
      have hj : PyData.canLay0 (.str (Txt.join (Str.ofString "") ys)) = true := join_lay fun y hy => (hys y hy).2
      have hjl : (Txt.join (Str.ofString "") ys).length = ys.length := join_len fun y hy => (hys y hy).1
      have wj : Wd (Txt.join (Str.ofString "") ys) := ⟨by omega, hj⟩
      have sum1 : (ys.map fun y => y.length).sum = ys.length := by
        clear hj hjl wj hyl d4
        induction ys with
        | nil => rfl
        | cons y ys ih => rw [List.map_cons, List.sum_cons, (hys y (by simp)).1, ih fun z hz => hys z (by simp [hz]), List.length_cons]; omega
      simp [sum1, show (Str.ofString "").length = 0 by decide]
      refine ⟨by omega, ?_⟩
      refine next_ok d4 (by omega) (by decide) fun r5 x5 a5 b5 d5 => ?_
      simp
      have fin : ∀ (w' : Str) (x' : SV) (y4 y5 y6 y7 : Option SV), Wd w' → Dr (B + 40 * (ws.length : Int) + 40) x' → ∃ m', m' < k ∧ ∃ ws1 x'' z4 z5 z6 z7, (⟨[some (.cell 0), some (.dat (.int m)), some (.dat (.str letters)), some (.own (sL (ws ++ [w']))), y4, y5, y6, y7, none, none], [x']⟩ : Sto) = ⟨[some (.cell 0), some (.dat (.int m)), some (.dat (.str letters)), some (.own (sL ws1)), z4, z5, z6, z7, none, none], [x'']⟩ ∧ ws1.length + m' = m.toNat ∧ (∀ w ∈ ws1, Wd w) ∧ Dr (B + 40 * (ws1.length : Int)) x'' := fun w' x' y4 y5 y6 y7 hw' hd' =>
        ⟨k - 1, by omega, ws ++ [w'], x', y4, y5, y6, y7, rfl, by rw [List.length_append]; simp; omega, fun w hwm => by
          rcases List.mem_append.mp hwm with hwm | hwm
          · exact hw w hwm
          · rw [List.mem_singleton.mp hwm]; exact hw', hd'.up (by rw [List.length_append]; simp; omega)⟩
      refine ⟨fun h0 => ⟨⟨by decide, by decide +kernel⟩, ?_⟩, fun h0 => ?_⟩
      · refine next_ok d5 (by omega) (by decide) fun r6 x6 a6 b6 d6 => ?_
        simp
        refine ob_ixN a6 (by rw [ten_ok.1]; exact b6) fun j hj => ?_
        obtain ⟨v, hv⟩ : ∃ v, (Txt.split tenWords " ")[j]? = some v := ⟨_, List.getElem?_eq_getElem hj⟩
        simp [hv]
        exact tail_ok d6 (by omega) (by omega) (ten_ok.2 v (List.mem_of_getElem? hv)) hw fun w' x' z7 hw' hd' => fin w' x' _ _ _ _ hw' (hd'.up (by omega))
      · exact tail_ok d5 (by omega) (by omega) wj hw fun w' x' z7 hw' hd' => by
          obtain ⟨m', k1, ws1, x'', z4, z5, z6, z7, e, k2, k3, k4⟩ := fin w' x' (some (.dat (.int sz))) (some (.dat (.str w'))) y6 z7 hw' (hd'.up (by omega))
          exact ⟨m', k1, ws1, x'', ⟨z4, z5, z6, z7, e⟩, k2, k3, k4⟩
  · refine h ws x' (by omega) hw (hd.up (by omega))
end GK13

namespace GK13
open PySem PySem.Spec PyProof.Rows L2 L3
theorem eq_nil {rs : List Str} (h : ∀ w ∈ rs, Wd w) : eqD (.lst (rs.map D.str)) (.lst []) = some (decide (rs = [])) := by
  rw [eqD_sm (a := .lst (rs.map D.str)) (b := .lst []) (strs_sm fun y hy => (h y hy).2) (by simp [D.sm, smL]) (by have := strs_dp (ys := rs); simp [D.dp]; omega) (by simp [D.dp, dpL])]
  cases rs <;> simp [L3.eqT, pyOf, pysOf, PyData.eqv, PyData.eqvAll]
/-- two marks next to each other -/
def Way (d : D) : Prop := ∃ a b, Wd a ∧ Wd b ∧ d = .tup [.str a, .str b]
theorem ways_sm {ws : List D} (h : ∀ d ∈ ws, Way d) : smL ws ∧ dpL ws ≤ 1 := by
  refine ⟨smL_iff.mpr fun d hd => ?_, dpL_le fun d hd => ?_⟩
  · obtain ⟨a, b, ha, hb, rfl⟩ := h d hd
    exact ⟨ha.2, hb.2, trivial⟩
  · obtain ⟨a, b, ha, hb, rfl⟩ := h d hd
    simp [D.dp, dpL]
theorem section_ok {B : Int} {n : Str} {pool : List Str} {x : SV} {Q X} (hx : Dr B x) (hB : B < 2 ^ 40) (hn : Wd n) (hp : 0 < pool.length ∧ pool.length ≤ 20) (hpw : ∀ w ∈ pool, Wd w) (h : ∀ d ms Rw x', Sec d n ms Rw → Dr (B + 200) x' → Q (.dat d) [x']) :
    Wf F__law_section [.cell 0, .dat (.str n), .dat (.lst (pool.map D.str))] [x] Q X := by
  unfold F__law_section fb__law_section
  simp [wf_run]
  refine next_ok hx (by omega) (by decide) fun r1 x1 a1 b1 d1 => ?_
  simp
  refine next_ok d1 (by omega) (by decide) fun r2 x2 a2 b2 d2 => ?_
  simp
  refine next_ok d2 (by omega) (by decide) fun r3 x3 a3 b3 d3 => ?_
  simp
  refine ob_ixN a3 (by simpa using b3) fun j hj => ?_
  obtain ⟨many, hmany, e⟩ : ∃ sz : Int, (0 ≤ sz ∧ sz ≤ 8) ∧ ([SV.dat (.int (2 + r1)), .dat (.int (2 + r2)), .dat (.int 8)] : List SV)[j]? = some (.dat (.int sz)) := by
    match j, hj with
    | 0, _ => exact ⟨2 + r1, by omega, rfl⟩
    | 1, _ => exact ⟨2 + r2, by omega, rfl⟩
    | 2, _ => exact ⟨8, by omega, rfl⟩
  simp [e]
  refine next_ok d3 (by omega) (by omega) fun r4 x4 a4 b4 d4 => ?_
  simp
  refine ob_at a4 b4 fun m0 hm0 => ?_
  simp
  refine whileF_ind (m := 2 * 8) (fun k S => ∃ ms ws rs y6 x', S = ⟨[some (.cell 0), some (.dat (.str n)), some (.dat (.lst (pool.map D.str))), some (.dat (.int many)), some (.own (sL ms)), some (.own (ws.map SV.dat)), some y6, none, none], [x']⟩ ∧ y6.peek = some (.lst (rs.map D.str)) ∧ 2 * (8 - ms.length) + (if rs = [] then 0 else 1) ≤ k ∧ 0 < ms.length ∧ ms.length ≤ 8 ∧ (∀ w ∈ ms, Wd w) ∧ (∀ w ∈ rs, Wd w) ∧ (∀ d ∈ ws, Way d) ∧ ws.length ≤ 2 * ms.length ∧ Dr (B + 4 + (ms.length : Int)) x')
    ⟨[m0], [], pool, .dat (.lst (pool.map D.str)), x4, by simp, rfl, by simp; split <;> omega, by simp, by simp, by simpa using hpw m0 hm0, hpw, by simp, by simp, d4.up (by simp; omega)⟩ (by omega) (fun k S hI => ?_)
  obtain ⟨ms, ws, rs, y6, x', rfl, hy, hk, l1, l2, hms, hrs, hws, lws, hd⟩ := hI
  obtain ⟨L, hL⟩ : ∃ L, ms.length = L + 1 := ⟨ms.length - 1, by omega⟩
  obtain ⟨last, hlast⟩ : ∃ last, ms[L]? = some last := ⟨_, List.getElem?_eq_getElem (by omega)⟩
  have wl : Wd last := hms last (List.mem_of_getElem? hlast)
  have neg1 : ixN ms.length (-1) = some L := by rw [hL]; exact ixN_neg1
  simp [hy, eq_nil hrs]
  refine ⟨fun hlt => ⟨fun hnil => ⟨small62_of (by omega) (by omega), ?a⟩, fun hne => ?b⟩, fun hge => ⟨small62_of (by omega) (by omega), ?c⟩⟩
  case b =>
    refine ct_filter (fun d => match d with | .str v => (!decide (v = last)) && !inT (.tup [.str last, .str v]) ws | _ => false) SV.dat (by rw [List.length_map]; omega) (fun d hd' => ?_) ?_
    · obtain ⟨v, hv, rfl⟩ := List.mem_map.mp hd'
      have e2 : inD true (.tup [.str last, .str v]) (.lst ws) = some (.bl (xorB true (inT (.tup [.str last, .str v]) ws))) :=
        inD_sm (x := .tup [.str last, .str v]) ⟨wl.2, (hpw v hv).2, trivial⟩ (ways_sm hws).1 (by simp [D.dp, dpL]) (Nat.le_trans (ways_sm hws).2 (by decide))
      simp [neg1, hlast]
      refine ⟨fun hc => by simp [hc], fun hc => ?_⟩
      simp [neg1, hlast, e2, xorB, hc]
      cases inT (.tup [.str last, .str v]) ws <;> simp
    · have ef : ((pool.map D.str).filter fun d => match d with | .str v => (!decide (v = last)) && !inT (.tup [.str last, .str v]) ws | _ => false) = (pool.filter fun v => (!decide (v = last)) && !inT (.tup [.str last, .str v]) ws).map D.str := by
        rw [List.filter_map]; rfl
      rw [ef]
      generalize hf : (pool.filter fun v => (!decide (v = last)) && !inT (.tup [.str last, .str v]) ws) = fs
      have hfs : ∀ v ∈ fs, Wd v := fun v hv => by rw [← hf] at hv; exact hpw v (List.mem_filter.mp hv).1
      have lfs : fs.length ≤ 20 := by rw [← hf]; exact Nat.le_trans (List.length_filter_le _ _) hp.2
      simp [eq_nil hfs]
      refine ⟨fun hnil => ?_, fun hne2 => ?_⟩
      · rw [if_neg hne] at hk
        exact ⟨k - 1, by omega, ms, ws, fs, .own (sL fs), x', ⟨⟨rfl, rfl, rfl⟩, rfl⟩, by simp, by rw [if_pos hnil]; omega, l1, l2, hms, hfs, hws, lws, hd⟩
      · have lpos : 0 < fs.length := by
          cases fs with
          | nil => exact absurd rfl hne2
          | cons => simp
        refine next_ok hd (by omega) (by omega) fun r5 x5 a5 b5 d5 => ?_
        simp
        refine ob_ixN a5 b5 fun j hj => ?_
        obtain ⟨v, hv⟩ : ∃ v, fs[j]? = some v := ⟨_, List.getElem?_eq_getElem hj⟩
        have wv := hfs v (List.mem_of_getElem? hv)
        have n1 : ixN (ms.length + 1) (-1) = some ms.length := ixN_neg1
        have n2 : ixN (ms.length + 1) (-2) = some L := by rw [hL]; exact ixN_neg2
        have g1 : (sL ms ++ [SV.dat (.str v)])[ms.length]? = some (.dat (.str v)) := by rw [List.getElem?_append_right (by simp)]; simp
        have g2 : (sL ms ++ [SV.dat (.str v)])[L]? = some (.dat (.str last)) := by rw [List.getElem?_append_left (by simp; omega)]; simp [hlast]
        simp [hv, n1, n2, g1, g2]
        rw [if_neg hne] at hk
        refine ⟨by omega, by omega, k - 1, by omega, ms ++ [v], ws ++ [.tup [.str last, .str v], .tup [.str v, .str last]], fs, .own (sL fs), x5, ⟨⟨by simp, by simp, rfl⟩, rfl⟩, by simp, by rw [if_neg hne2, List.length_append]; simp; omega, by simp, by rw [List.length_append]; simp; omega, fun w hw => ?_, hfs, fun d hd => ?_, by rw [List.length_append, List.length_append]; simp; omega, d5.up (by rw [List.length_append]; simp; omega)⟩
        · rcases List.mem_append.mp hw with hw | hw
          · exact hms w hw
          · rw [List.mem_singleton.mp hw]; exact wv
        · rcases List.mem_append.mp hd with hd | hd
          · exact hws d hd
          · simp only [List.mem_cons, List.not_mem_nil, or_false] at hd
            rcases hd with rfl | rfl
            · exact ⟨_, _, wl, wv, rfl⟩
            · exact ⟨_, _, wv, wl, rfl⟩
  all_goals
    refine ct_ind (fun i acc μ => ∃ Rw x'', acc = Rw.map (fun t => SV.dat (enc t)) ∧ Rw.length = i ∧ (∀ t ∈ Rw, RowOk t) ∧ μ = [x''] ∧ Dr (B + 4 + (ms.length : Int) + 4 * (i : Int)) x'') (by rw [range_len]; omega) ⟨[], x', rfl, rfl, by simp, rfl, by simpa using hd⟩ (fun i d acc μ hd' hI => ?_) (fun acc μ hI => ?_)
    · obtain ⟨Rw, x5, rfl, rfl, hRw, rfl, d5⟩ := hI
      have hi := (List.getElem?_eq_some_iff.mp hd').1
      rw [range_len] at hi
      simp
      refine stretch_ok d5 (by omega) fun t x6 ht d6 => ?_
      simp
      refine ⟨Rw ++ [t], by simp, by simp, fun u1 u2 u3 hu => ?_, d6.up (by omega)⟩
      rcases List.mem_append.mp hu with hu | hu
      · exact hRw _ hu
      · rw [List.mem_singleton.mp hu]; exact ht
    · obtain ⟨Rw, x5, rfl, hRl, hRw, rfl, d5⟩ := hI
      rw [range_len] at hRl d5
      simp
      exact h _ ms Rw x5 ⟨rfl, by omega, by omega, hn, hms, hRw⟩ (d5.up (by omega))
end GK13

namespace GK13
open PySem PySem.Spec PyProof.Rows L2 L3
theorem sec_sm {d : D} {n : Str} {ms : List Str} {Rw : List (Int × Int × Int)} (h : Sec d n ms Rw) : d.sm ∧ d.wt ≤ 5000 ∧ d.dp ≤ 10 := by
  obtain ⟨rfl, h1, h2, h3, h4, h5⟩ := h
  have row : ∀ d ∈ Rw.map enc, d.sm ∧ d.wt ≤ 200 ∧ d.dp ≤ 2 := fun d hd => by
    obtain ⟨t, ht, rfl⟩ := List.mem_map.mp hd
    obtain ⟨k1, k2, k3⟩ := h5 t ht
    refine ⟨⟨by show t.1.natAbs < 10 ^ 12; omega, by show t.2.1.natAbs < 10 ^ 12; omega, by show t.2.2.natAbs < 10 ^ 12; omega, trivial⟩, by simp [enc, D.wt, wtL], by simp [enc, D.dp, dpL]⟩
  have mk : ∀ d ∈ ms.map D.str, d.sm ∧ d.wt ≤ 8 ∧ d.dp ≤ 0 := fun d hd => by
    obtain ⟨y, hy, rfl⟩ := List.mem_map.mp hd
    exact ⟨(h4 y hy).2, (h4 y hy).1, by simp [D.dp]⟩
  have w1 := wtL_le (n := 200) (ds := Rw.map enc) fun d hd => (row d hd).2.1
  have w2 := wtL_le (n := 8) (ds := ms.map D.str) fun d hd => (mk d hd).2.1
  have d1 := dpL_le (n := 2) (ds := Rw.map enc) fun d hd => (row d hd).2.2
  have d2 := dpL_le (n := 0) (ds := ms.map D.str) fun d hd => (mk d hd).2.2
  rw [List.length_map] at w1 w2
  have wn := h3.1
  refine ⟨⟨h3.2, smL_iff.mpr fun d hd => (mk d hd).1, smL_iff.mpr fun d hd => (row d hd).1, trivial⟩, ?_, ?_⟩
  · simp only [D.wt, wtL]; omega
  · simp only [D.dp, dpL]; omega
/-- the k-th leg -/
def lg (nm : Str) : D → D
  | .int k => .tup [.str nm, .int (k / 8), .int (k % 8)]
  | _ => .non
def lgp : D → Bool
  | .int k => decide (¬ k / 8 = k % 8)
  | _ => false
theorem law_ok {ns : List Int} {Q X} (hn : ns.length ≤ 63) (h : ∀ μ, Q (.dat (.bl true)) μ) : Wf F_law [.dat (.lst (ns.map D.int))] [] Q X := by
  unfold F_law fb_law
  simp [wf_run]
  refine begin_ok hn fun cs c1 c2 => ?_
  simp
  refine next_ok (B := 0) ⟨cs, 0, 0, 0, rfl, c1, c2, by decide, by decide, by decide, by decide, by decide⟩ (by decide) (by decide) fun r0 x0 a0 b0 d0 => ?_
  simp
  refine ⟨small62_of (by omega) (by omega), ?_⟩
  refine forF_ind (fun i S => ∃ y2 y3 y4 y5 y6 y7 y8 x, S = ⟨[some (.dat (.lst (ns.map D.int))), some (.cell 0), y2, y3, y4, y5, y6, y7, y8, none], [x]⟩ ∧ Dr (1 + 10000 * (i : Int)) x) ⟨none, none, none, none, none, none, none, x0, by simp, by simpa using d0⟩ (fun i d S hd hI => ?_) (fun S hI => ?_)
  · obtain ⟨y2, y3, y4, y5, y6, y7, y8, x, rfl, dx⟩ := hI
    have hi := (List.getElem?_eq_some_iff.mp hd).1
    rw [range_len] at hi
    have hi2 : (i : Int) ≤ 2 := by omega
    obtain ⟨j, hj, rfl⟩ := mem_range (List.mem_of_getElem? hd)
    simp
    refine words_ok dx (by omega) (by decide) fun ws x1 l1 w1 d1 => ?_
    obtain ⟨nm, rfl⟩ : ∃ nm, ws = [nm] := by
      match ws, l1 with
      | [nm], _ => exact ⟨nm, rfl⟩
      | [], l1 => simp at l1
      | _ :: _ :: _, l1 => simp at l1; omega
    have wn := w1 nm (by simp)
    simp
    refine next_ok d1 (by omega) (by decide) fun r2 x2 a2 b2 d2 => ?_
    simp
    refine words_ok d2 (by omega) (by omega) fun pool x3 l3 w3 d3 => ?_
    simp
    refine ⟨small62_of (by decide) (by decide), ?_⟩
    refine ct_ind (fun k acc μ => ∃ secs x', acc = secs.map SV.dat ∧ secs.length = k ∧ (∀ d ∈ secs, ∃ ms Rw, Sec d nm ms Rw) ∧ μ = [x'] ∧ Dr (1 + 10000 * (i : Int) + 3000 + 200 * (k : Int)) x') (by rw [range_len]; decide) ⟨[], x3, rfl, rfl, by simp, rfl, d3.up (by omega)⟩ (fun k d acc μ hd hI => ?_) (fun acc μ hI => ?_)
    · obtain ⟨secs, x4, rfl, rfl, hs, rfl, d4⟩ := hI
      have hk := (List.getElem?_eq_some_iff.mp hd).1
      rw [range_len] at hk
      have hk2 : secs.length < 2 := hk
      simp
      refine section_ok d4 (by omega) wn ⟨by omega, by omega⟩ w3 fun d ms Rw x5 hsec d5 => ?_
      simp
      refine ⟨secs ++ [d], by simp, by simp, fun e he => ?_, d5.up (by omega)⟩
      rcases List.mem_append.mp he with he | he
      · exact hs e he
      · rw [List.mem_singleton.mp he]; exact ⟨ms, Rw, hsec⟩
    · obtain ⟨secs, x4, rfl, hl, hs, rfl, d4⟩ := hI
      rw [range_len] at hl d4
      have hl : secs.length = 2 := hl
      have big : (D.lst secs).sm ∧ (D.lst secs).wt ≤ 2 ^ 20 ∧ (D.lst secs).dp ≤ 64 := by
        have w := wtL_le (n := 5000) (ds := secs) fun d hd => by obtain ⟨ms, Rw, q⟩ := hs d hd; exact (sec_sm q).2.1
        have p := dpL_le (n := 10) (ds := secs) fun d hd => by obtain ⟨ms, Rw, q⟩ := hs d hd; exact (sec_sm q).2.2
        refine ⟨smL_iff.mpr fun d hd => by obtain ⟨ms, Rw, q⟩ := hs d hd; exact (sec_sm q).1, ?_, ?_⟩
        · simp only [D.wt]; omega
        · simp only [D.dp]; omega
      have rs := repr_sm big.1 big.2.1 big.2.2
      generalize (pyOf (D.lst secs)).shown = txt at rs
      obtain ⟨s0, s1, rfl⟩ : ∃ s0 s1, secs = [s0, s1] := by
        match secs, hl with
        | [s0, s1], _ => exact ⟨s0, s1, rfl⟩
      obtain ⟨ms, Rw, q0⟩ := hs s0 (by simp)
      simp [rs]
      refine ⟨small62_of (by decide) (by decide), ?_⟩
      refine ct_filter lgp (fun d => .dat (lg nm d)) (by rw [range_len]; decide) (fun d hd => ?_) ?_
      · obtain ⟨k, hk, rfl⟩ := mem_range hd
        simp [lgp, lg]
      · simp
        refine forF_ind (fun k S => ∃ z7 z8, S = ⟨[some (.dat (.lst (ns.map D.int))), some (.cell 0), some (.dat (.int j)), some (.dat (.str nm)), some (.dat (.lst (pool.map D.str))), some (.dat (.lst [s0, s1])), some (.dat (.str txt)), z7, z8, none], [x4]⟩) ⟨y7, y8, by simp⟩ (fun k d S hd hI => ?_) (fun S hI => ?_)
        · obtain ⟨z7, z8, rfl⟩ := hI
          obtain ⟨k0, hk0, rfl⟩ := List.mem_map.mp (List.mem_of_getElem? hd)
          obtain ⟨hk1, hk2⟩ := List.mem_filter.mp hk0
          obtain ⟨k1, hk3, rfl⟩ := mem_range hk1
          have hk3 : k1 < 64 := hk3
          have hne : ¬ (k1 : Int) / 8 = (k1 : Int) % 8 := by simpa [lgp] using hk2
          simp [lg]
          refine forF_ind (fun k S => ∃ z8, S = ⟨[some (.dat (.lst (ns.map D.int))), some (.cell 0), some (.dat (.int j)), some (.dat (.str nm)), some (.dat (.lst (pool.map D.str))), some (.dat (.lst [s0, s1])), some (.dat (.str txt)), some (.dat (.tup [.str nm, .int ((k1 : Int) / 8), .int ((k1 : Int) % 8)])), z8, none], [x4]⟩) ⟨z8, rfl⟩ (fun k d S hd hI => ?_) (fun S hI => ?_)
          · obtain ⟨z8, rfl⟩ := hI
            obtain ⟨ms', Rw', q'⟩ := hs d (List.mem_of_getElem? hd)
            simp
            refine leg_ok q' (by omega) (by omega) hne ?_
            simp
          · obtain ⟨z8, rfl⟩ := hI
            simp
        · obtain ⟨z7, z8, rfl⟩ := hI
          have e0 := q0.eq
          subst e0
          have few := q0.few
          have len1 := q0.len
          simp
          refine next_ok d4 (by omega) (by decide) fun r9 x9 a9 b9 d9 => ?_
          simp
          have dlast : Dr (1 + 10000 * ((i : Int) + 1)) x9 := d9.up (by omega)
          refine ⟨by omega, ?_⟩
          have h9 : r9 = 0 ∨ r9 = 1 := by omega
          refine ⟨fun hpos => ?_, fun hneg => ?_⟩
          · have e9 : r9 = 1 := by
              rcases h9 with h9 | h9
              · rw [h9] at hpos; omega
              · exact h9
            subst e9
            refine parts_ok q0 (by omega) (by omega) (by omega) ?_
            simp [rs]
            exact ⟨_, _, _, _, _, _, _, x9, ⟨⟨rfl, rfl, rfl, rfl, rfl, rfl, rfl⟩, rfl⟩, dlast⟩
          · refine parts_ok q0 (by omega) (by omega) (by omega) ?_
            simp [rs]
            exact ⟨_, _, _, _, _, _, _, x9, ⟨⟨rfl, rfl, rfl, rfl, rfl, rfl, rfl⟩, rfl⟩, dlast⟩
  · obtain ⟨y2, y3, y4, y5, y6, y7, y8, x, rfl, dx⟩ := hI
    simp; exact h _
end GK13

namespace GK13
open PySem PySem.Spec PyProof.Rows L2 L3
theorem law_true {ns : List Int} (hl : ns.length ≤ 63) (_ : ∀ i ∈ ns, Builtin.Int.intBits i ≤ 1048576) : ∃ μ, F_law [.dat (.lst (ns.map D.int))] [] = some (.ok (.dat (.bl true)) μ) := by
  obtain ⟨r, e, q⟩ := law_ok (Q := fun x _ => x = .dat (.bl true)) (X := fun _ _ => False) hl (fun _ => rfl)
  cases r with
  | ok x μ =>
    have q : x = .dat (.bl true) := q
    subst q
    exact ⟨μ, e⟩
  | exc e S => exact q.elim
end GK13

open PySem PySem.W PyProof.Rows
set_option maxHeartbeats 0 in
theorem PySem.Challenge.cw_pathbook_k13_legs_measured_holds : PySem.Challenge.rw_pathbook_k13_legs_measured.Holds := by
  w_on; o_law; k_head; (case hw => w_witness2)
  k_fill
  refine L3.end_walk (l := PySem.Challenge.rw_pathbook_k13_legs_measured) (n := 63) (k := 5) (x := "_law_script") (f := GK13.F_law) rfl (by decide) rfl ⟨rfl, by decide, by decide⟩ (fun w h Y => PySem.W.kIn_of Y) ?F (fun ns hl hb => GK13.law_true hl hb)
  case F =>
    intro w mg fa h KX G hmg
    refine' GK13.all_mk KX G hmg ?a0 ?l0 ?c0 ?k0 ?a1 ?l1 ?c1 ?k1 ?a2 ?l2 ?c2 ?k2 ?a3 ?l3 ?c3 ?k3 ?a4 ?l4 ?c4 ?k4 ?a5 ?l5 ?c5 ?k5 ?a6 ?l6 ?c6 ?k6 ?a7 ?l7 ?c7 ?k7 ?a8 ?l8 ?c8 ?k8 ?a9 ?l9 ?c9 ?k9 ?a10 ?l10 ?c10 ?k10 ?a11 ?l11 ?c11 ?k11 ?a12 ?l12 ?c12 ?k12 ?b_range ?b_max ?b_len ?b_tuple ?b_min ?b_sum ?b_repr
    (case a0 => k_is); (case l0 => k_is); (case c0 => k_is); (case k0 => k_is); (case a1 => k_is); (case l1 => k_is); (case c1 => k_is); (case k1 => k_is); (case a2 => k_is); (case l2 => k_is); (case c2 => k_is); (case k2 => k_is); (case a3 => k_is); (case l3 => k_is); (case c3 => k_is); (case k3 => k_is); (case a4 => k_is); (case l4 => k_is); (case c4 => k_is); (case k4 => k_is); (case a5 => k_is); (case l5 => k_is); (case c5 => k_is); (case k5 => k_is); (case a6 => k_is); (case l6 => k_is); (case c6 => k_is); (case k6 => k_is); (case a7 => k_is); (case l7 => k_is); (case c7 => k_is); (case k7 => k_is); (case a8 => k_is); (case l8 => k_is); (case c8 => k_is); (case k8 => k_is); (case a9 => k_is); (case l9 => k_is); (case c9 => k_is); (case k9 => k_is); (case a10 => k_is); (case l10 => k_is); (case c10 => k_is); (case k10 => k_is); (case a11 => k_is); (case l11 => k_is); (case c11 => k_is); (case k11 => k_is); (case a12 => k_is); (case l12 => k_is); (case c12 => k_is); (case k12 => k_is); (case b_range => k_is); (case b_max => k_is); (case b_len => k_is); (case b_tuple => k_is); (case b_min => k_is); (case b_sum => k_is); (case b_repr => k_is)

